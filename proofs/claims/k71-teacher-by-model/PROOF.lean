import PyProof.Rows.All
import Wide.All
import OpenK.AllK
import Wide.FinOn
import HandS.ForMost
import HandS.Defaults
import HandS.HeadHook2
import HandS.TupAny
import HandS.SortInts
import KE.KDictKeyed
import KE.KDictDisplayH
import OpenK.KMeth
import KE.GoesEnum
import KE.GoesMore
import HandS.Walk
import HandS.Evl
import HandS.IsInst
import HandS.StrMore
import HandS.Replace
import PyProof.Rows.StrLawsPart
import HandS.ExcSuper
import HandS.Nested
import HandS.ExcInit
import HandS.ExcOwn
import HandS.ExcField
import HandS.ExcIs
import HandS.HotCalls
import KE.KExcSuper
import KE.KSuper
import KE.KExcIs
import HandS.WordsExc
import HandS.Head0
import HandS.Head1
import HandS.Head2
import HandS.HeadEnd
import HandS.HeadHook1
import PySem.Challenge.RW_fromyesalone_k71_teacher_by_model
import HandS.List
import HandS.Text
set_option Elab.async false
set_option linter.all false
set_option maxRecDepth 100000
set_option maxHeartbeats 4000000
namespace Fy
open PySem PySem.Spec PyProof.Rows L2

/-! ### a display of one pair whose key is a tuple -/
def tDisp1T (tk tv : TE) : TE := fun σ H Q => ∀ p, H p = none → tk σ (upd H p (.dT [])) fun x H1 => tv σ H1 fun y H2 =>
  ∃ q ks, x = .ref q ∧ H2 q = some (.tup (ks.map kV)) ∧ H2 p = some (.dT []) ∧ Q (.ref p) (upd H2 p (.dT [(ks, y)]))
theorem pe_disp1T {X : Cx} {pos : Pos} {k v : Expr} {tk tv : TE} (hu : X.A.units < cLine) (hk : PE X k tk) (hv : PE X v tv) : PE X (.Dict [some k] [v] pos) (tDisp1T tk tv) := by
  refine ⟨fun pins s σ H Q I q => ?_⟩
  have hn := I.hok.fresh (Nat.le_refl s.heap.objs.size)
  have I1 := I.laid (a := s.heap.objs.size) (o := .dT []) (h' := s.heap.push { cls := .type "dict", data := .dict #[] }) (t' := s.toks) (fun _ _ q => Heap.get?_push_of_some _ q) (Nat.le_refl _) (dt_empty s.heap I.big)
  have hp := pps_cons (pos := pos) hk hv (pps_nil (X := X) (pos := pos))
  rw [arm_eval_Dict, zip_pairTrees [some k] [v] X.env pos rfl rfl, dictDisplay_pairs (pairTrees [some k] [v] X.env pos) (by simp [pairTrees]) (by simp [pairTrees])]
  refine wpAny_bind (wpAny_standAt (wpAny_bind (wpAny_subDictH (knd := tupleKind (mixKind X.prog X.w)) (Q := fun d s' => wpAny (model X.prog X.w) X.A (pure (Value.ref d)) (EP X pins σ Q) X.xe s') hu (by simp [pairTrees]) ?_)))
  refine thn (hp.run pins _ σ _ (fun ps H2 => match ps with
    | [(x, y)] => ∃ q ks, x = .ref q ∧ H2 q = some (.tup (ks.map kV)) ∧ H2 s.heap.objs.size = some (.dT []) ∧ Q (.ref s.heap.objs.size) (upd H2 s.heap.objs.size (.dT [(ks, y)]))
    | _ => False) I1 (q _ hn)) fun ws s2 h2 => ?_
  · obtain ⟨ps, H2, I2, rel, fin⟩ := h2
    obtain ⟨x, y, rfl⟩ : ∃ x y, ps = [(x, y)] := by
      match ps, fin with
      | [(x, y)], _ => exact ⟨x, y, rfl⟩
    obtain ⟨q', ks, ex, ek, ed, fin⟩ := fin
    subst ex
    cases rel with
    | @cons a b as bs hh tt =>
      cases tt
      obtain ⟨b1, b2⟩ := b
      obtain ⟨hr1, hr2⟩ := hh
      cases (show b1 = Value.ref q' from hr1)
      obtain ⟨z, hd, xs0, r0, dd⟩ := dt_of I2.hok ed
      cases r0
      refine ⟨[(ks, q', b2)], ⟨rfl, rfl, key_of I2.hok ek, trivial⟩, dd, fun h' tk dd' hs => wpAny_pure ⟨.ref s.heap.objs.size, _, ?_, rfl, fin⟩⟩
      have e1 : storedAllH ([] : List (List Key × Addr × Value)) [(ks, q', b2)] = [(ks, q', b2)] := by simp [storedAllH, storedH, atKey]
      rw [e1] at dd'
      obtain ⟨oq, es, ep, hq, h2', h3, h4, _, h5⟩ := dd'
      refine d_write I2 (by rw [ed]; exact True.intro) hs ⟨oq, hq⟩ ⟨by show 1 ≤ sizeLine; decide, hd, [(ks, q', b2)], .cons ⟨rfl, ?_, hr2⟩ .nil, oq, es, ep, hq, h2', h3, h4, h5⟩
      rw [upd_ne (ne_of ek ed (fun z => nomatch z))]
      exact ek
end Fy

set_option Elab.async false
set_option linter.all false
set_option maxRecDepth 100000
set_option maxHeartbeats 4000000
namespace Fy
open PySem PySem.Spec PyProof.Rows L2

/-! ### x in o by an own __contains__ -/
def rInOwn (C : Addr) (sp : Sp) (neg : Bool) (E : XK) : R2 := fun x y H Q => ∃ a dx fs, y = .ref a ∧ H a = some (.ins C dx fs) ∧
  sp [.ref a, x] H (fun v H' => ∃ b, v = .bl b ∧ Q (.bl (if neg then !b else b)) H') E
structure Cont (K : PySem.W.Frag) (C f : Addr) : Prop where
  fi : PySem.W.findIn K (.ref C) "__contains__" = some (some (.ref f))
  fn : PySem.W.isFn K (.ref f) = true
section
variable {X : Cx} {CX : CXT} {k : Nat} {f C : Addr} {fd : FuncData} {ps : List Str} {sp : Sp} {E : XK}
theorem op_inOwn (M : Cont X.K C f) (F : FnOk X.prog X.w X.K X.mg X.base CX k f fd ps sp) (hr : Room k X.A) (hb : Binds X.K fd ps []) (hx : Passes CX X E) : OpR X (compareOp .In) (rInOwn C sp false E) := by
  intro pins s σ H x y v u Q I rx ry hq
  obtain ⟨a, dx, fs, rfl, ha, h⟩ := hq
  cases ry
  obtain ⟨mA, J, _⟩ := ins_get I.hok ha
  obtain ⟨od, J, _⟩ := J.look
  obtain ⟨m, hF⟩ := I.fr
  refine PySem.W.in_K hF I.ok.mod.kin J M.fi M.fn (thn (run_fn F hr hb .nil hx I (vs := [V.ref a, x]) (.cons (show RelV (V.ref a) (Value.ref a) from rfl) (.cons rx .nil)) (by rw [List.append_nil]; exact h)) fun r s' z => ?_)
  obtain ⟨w', H', I', rr, b, e, q⟩ := z
  subst e
  cases rr
  exact wpAny_truthy_bool ⟨.bl b, H', I', rfl, q⟩
theorem op_notInOwn (M : Cont X.K C f) (F : FnOk X.prog X.w X.K X.mg X.base CX k f fd ps sp) (hr : Room k X.A) (hb : Binds X.K fd ps []) (hx : Passes CX X E) : OpR X (compareOp .NotIn) (rInOwn C sp true E) := by
  intro pins s σ H x y v u Q I rx ry hq
  obtain ⟨a, dx, fs, rfl, ha, h⟩ := hq
  cases ry
  obtain ⟨mA, J, _⟩ := ins_get I.hok ha
  obtain ⟨od, J, _⟩ := J.look
  obtain ⟨m, hF⟩ := I.fr
  refine PySem.W.notIn_K hF I.ok.mod.kin J M.fi M.fn (thn (run_fn F hr hb .nil hx I (vs := [V.ref a, x]) (.cons (show RelV (V.ref a) (Value.ref a) from rfl) (.cons rx .nil)) (by rw [List.append_nil]; exact h)) fun r s' z => ?_)
  obtain ⟨w', H', I', rr, b, e, q⟩ := z
  subst e
  cases rr
  exact wpAny_truthy_bool ⟨.bl (!b), H', I', rfl, q⟩
end

/-! ### enumerate(text), enumerate(tuple) -/
/-- n pairs (i, f i), each a new tuple, while C stands -/
def ItE (C : Hp → Prop) (n : Nat) (f : Nat → Option V) : It :=
  ⟨fun i H => C H ∧ i < n, fun i H v H' => ∃ T x, v = .ref T ∧ H T = none ∧ H' = upd H T (.tup [.int (i : Nat), x]) ∧ f i = some x, fun i H => C H ∧ n = i⟩
theorem turn_enumD {P : Program} {w : World} {K : PySem.W.Frag} {elts : List Expr} {kk : Nat} {tpos : Pos} (C : Hp → Prop) (e it : Addr) (n : Nat) (f : Nat → Option V) (tnI : Nat → Heap → Prop)
    (hP : ∀ X : Cx, X.prog = P → X.w = w → X.K = K → X.calm = true → ∀ pins σ H s, Inv X pins σ H s → C H → ∀ i, tnI i s.heap → ∃ (fp : List Addr) (P0 : Nat → Value → Prop) (St : Nat → Heap → Prop),
      St i s.heap ∧ (∀ b ∈ fp, b = it ∨ b ≠ e) ∧ (∀ x, P0 i x → ∃ y, f i = some y ∧ RelV y x) ∧ (∀ i h, St i h → tnI i h) ∧ Draws P w X.A.in1 it fp n P0 St)
    (hob : ∀ i h, tnI i h → ∃ o, h.get? it = some o ∧ ∀ v, o.data ≠ .cell v) (hfr : ∀ i h h', tnI i h → (∀ o, h.get? it = some o → h'.get? it = some o) → tnI i h') :
    Turn P w K (.Tuple elts kk tpos) (ItE C n f) [e, it] e (fun i h => (∃ old, IsEnum h e it ((i : Nat) : Int) old) ∧ tnI i h ∧ e ≠ it) where
  mem := by simp
  obj := fun i h st b hb => by
    obtain ⟨⟨old, he⟩, hs, _⟩ := st
    have e' : b = e ∨ b = it := by simpa using hb
    rcases e' with z | z
    · rw [z]; exact ⟨_, he, fun v q => nomatch q⟩
    · rw [z]; exact hob i h hs
  keep := fun i h h' st k => let ⟨⟨old, he⟩, hi, hne⟩ := st; ⟨⟨old, k e (by simp) _ he⟩, hfr i h h' hi fun o q => k it (by simp) o q, hne⟩
  item := by
    intro X hP' hw hK hc i pins s σ H E I hf st hg
    obtain ⟨⟨old, he⟩, hit, hne⟩ := st
    obtain ⟨hC, hi⟩ := hg
    obtain ⟨fp, P0, St, hSt, hfp, hP0, back, D⟩ := hP X hP' hw hK hc pins σ H s I hC i hit
    subst hP' hw hK
    have hel : e < s.heap.objs.size := Heap.lt_size he
    have hil : it < s.heap.objs.size := by obtain ⟨_, q, _⟩ := hob i _ hit; exact Heap.lt_size q
    have hef : e ∉ fp := fun z => by
      rcases hfp e z with q | q
      · exact hne q
      · exact q rfl
    refine wpAny_pyNext_enum_itemD D he hSt hi hne hef fun u h' tk hPu ho hs' hT hsz hk => ?_
    obtain ⟨x, hx, ru⟩ := hP0 u hPu
    refine ⟨_, rfl, wpAny_letOwnedTupleGo_enum (s := { s with heap := h', toks := tk + 1 }) ho fun h'' he' sb => ?_⟩
    have hT2 : h''.get? s.heap.objs.size = some { cls := .type "tuple", data := .seq #[.int i tk, u] } := (sb.2 _ (Nat.ne_of_gt hel)).trans hT
    have new : ObjOk X.prog X.w (upd H s.heap.objs.size (.tup [.int (i : Nat), x])) h'' s.heap.objs.size (.tup [.int (i : Nat), x]) :=
      ⟨by show 2 ≤ sizeLine; decide, [.int i tk, u], .cons ⟨_, rfl⟩ (.cons ru .nil), ⟨_, hT2, rfl, _, rfl⟩⟩
    have I1 : Inv X pins σ (upd H s.heap.objs.size (.tup [.int (i : Nat), x])) { s with heap := h'', toks := tk + 1 } :=
      I.turnedNew (ch := [e, it]) (fun b ob hb q => (sb.2 b (fun z => hb (by simp [z]))).trans (hk b ob (fun z => hb (by simp [z])) (fun z => hb (by simp [z])) q)) hf (Nat.le_refl _) new
    refine ⟨.ref s.heap.objs.size, _, I1, rfl, ⟨_, x, rfl, I.hok.fresh (Nat.le_refl _), rfl, hx⟩, ⟨⟨u, ?_⟩, hfr _ _ _ (back _ _ hs') fun o q => (sb.2 it (Ne.symm hne)).trans q, hne⟩, fun b hb => ?_⟩
    · have e1 : ((i + 1 : Nat) : Int) = (i : Int) + 1 := by omega
      rw [e1]; exact he'
    · have hb' : b < s.heap.objs.size := by
        have e' : b = e ∨ b = it := by simpa using hb
        rcases e' with z | z
        · rw [z]; exact hel
        · rw [z]; exact hil
      rw [upd_ne (Nat.ne_of_lt hb')]
      exact (hf b hb).1
  done := by
    intro X hP' hw hK hc i pins s σ H E I hf st hg
    obtain ⟨⟨old, he⟩, hit, hne⟩ := st
    obtain ⟨hC, hi⟩ := hg
    subst hi
    obtain ⟨fp, P0, St, hSt, hfp, hP0, back, D⟩ := hP X hP' hw hK hc pins σ H s I hC n hit
    subst hP' hw hK
    obtain ⟨f0, f1, f2, f3, f4, f5⟩ := hf it (by simp)
    exact wpAny_pyNext_enum_endD D he hSt fun h' eb => ⟨rfl, I.turned (t' := s.toks) (fun b o hb q => eb b o hb q) f0 f1 f3 f4 f5⟩
  self := fun A i s Q E st h => let ⟨⟨_, he⟩, _⟩ := st; wpAny_pyIter_enum he h
theorem enum_newT (l : Addr) (items : Array Value) (n : Nat) (dct : Option Addr) (sl : Array (Option Value)) :
    Meets (Builtin.«enumerate.__new__» ⟨[.type "enumerate", .ref l], []⟩) (fun _ R s => s.heap.get? l = some { cls := .type "tuple", dict := dct, data := .seq items n, slots := sl } ∧
      R (.ok (.ret (.ref (s.heap.push { cls := .type "tuple_iterator", data := .fields #[.ref l, .int 0 0] }).objs.size)))
        { s with heap := (s.heap.push { cls := .type "tuple_iterator", data := .fields #[.ref l, .int 0 0] }).push { cls := .type "enumerate", data := .fields #[.none, .bool false, .ref s.heap.objs.size, rawInt 0, .none, .none] } }) :=
  .of_wp fun prog w A R s h => by
    obtain ⟨hp, g, d, tk, os⟩ := s; obtain ⟨hl, h⟩ := h
    have hsub := sub_enumerate
    have hL : Heap.IsTuple (Shared.heap ⟨hp, g, d, tk, os⟩) l items := ⟨_, hl, rfl, n, rfl⟩
    wp_walk using AutoSeq1.wpAny_loadPart' hl
    refine wpAny_stack_any fun st => wpAny_pure ?_
    split
    · rename_i c _ _ _ _ _
      cases (c == Value.type "enumerate")
      · wp_walk using AutoSeq1.wpAny_loadPart' hl, wpAny_pyIter_tuple hL
        exact ⟨_, rfl, h⟩
      · wp_walk using AutoSeq1.wpAny_loadPart' hl, wpAny_pyIter_tuple hL
        exact ⟨_, rfl, h⟩
    · wp_walk using AutoSeq1.wpAny_loadPart' hl, wpAny_pyIter_tuple hL
      exact ⟨_, rfl, h⟩
theorem call_enumerate_tup {prog : Program} {w : World} {A : Around} {E : Value → Shared → Prop} {s : Shared} {l : Addr} {items : Array Value} {Q : Value → Shared → Prop} (hL : s.heap.IsTuple l items)
    (h : ∀ h', IsEnum h' (s.heap.objs.size + 1) s.heap.objs.size 0 .none → h'.IsTupleIter s.heap.objs.size l 0 → h'.objs.size = s.heap.objs.size + 2 →
      (∀ b o, s.heap.get? b = some o → h'.get? b = some o) → Q (.ref (s.heap.objs.size + 1)) { s with heap := h' }) :
    wpAny (model prog w) A (call (.type "enumerate") [.ref l]) Q E s := by
  obtain ⟨⟨c, dct, dt, sl⟩, hl, hc, n, hd⟩ := hL
  replace hc : c = .type "tuple" := hc
  replace hd : dt = .seq items n := hd
  subst hc hd
  refine callType_new F.called_enumerate (by decide) (F.typeCall_enumerate_1 _) (F.newCall_enumerate_1 _) (fun obj => F.args_object_init_2 obj _) F.entry_enumerate_new
    (enum_newT l items n dct sl) ⟨hl, ?_⟩
  have hz : (s.heap.push { cls := .type "tuple_iterator", data := .fields #[.ref l, .int 0 0] }).objs.size = s.heap.objs.size + 1 := Heap.size_push ..
  show _ ∧ _
  rw [hz]
  have he : IsEnum ((s.heap.push { cls := .type "tuple_iterator", data := .fields #[.ref l, .int 0 0] }).push
      { cls := .type "enumerate", data := .fields #[.none, .bool false, .ref s.heap.objs.size, rawInt 0, .none, .none] }) (s.heap.objs.size + 1) s.heap.objs.size 0 .none := by
    have := Heap.get?_push_size (s.heap.push { cls := .type "tuple_iterator", data := .fields #[.ref l, .int 0 0] })
      (o := { cls := .type "enumerate", data := .fields #[.none, .bool false, .ref s.heap.objs.size, rawInt 0, .none, .none] }) rfl
    rw [hz] at this; exact this
  refine ⟨⟨_, he, rfl⟩, h _ he ⟨_, Heap.get?_push_of_some _ (Heap.get?_push_size _ rfl), rfl, rfl⟩ (by rw [Heap.size_push, hz]) fun b o x => Heap.get?_push_of_some _ (Heap.get?_push_of_some _ x)⟩

/-- the signs of a text -/
def sgn (x : Str) (i : Nat) : Option V := (x.cps[i]?).map fun c => V.str ⟨#[c]⟩
def iEnumS (ta : TA) : TI := fun σ H R => ta σ H fun vs H1 => ∃ x, vs = [.str x] ∧ R (ItE (fun _ => True) x.cps.size (sgn x)) H1
theorem turn_enumT {P : Program} {w : World} {K : PySem.W.Frag} {elts : List Expr} {kk : Nat} {tpos : Pos} {a n0 : Addr} {xs : List V} (hlt : a < n0) :
    Turn P w K (.Tuple elts kk tpos) (ItE (fun H => SqT K H a xs) xs.length (fun i => xs[i]?)) [n0 + 1, n0] (n0 + 1) (fun i h => (∃ old, IsEnum h (n0 + 1) n0 ((i : Nat) : Int) old) ∧ h.IsTupleIter n0 a i ∧ n0 + 1 ≠ n0) := by
  have hne : a ≠ n0 := Nat.ne_of_lt hlt
  have hne2 : a ≠ n0 + 1 := Nat.ne_of_lt (Nat.lt_succ_of_lt hlt)
  refine turn_enumD (fun H => SqT K H a xs) (n0 + 1) n0 xs.length (fun i => xs[i]?) (fun i h => h.IsTupleIter n0 a i) (fun X' hP hw hK hc pins σ H s I hC i st => ?_) (fun i h st => ?_) (fun i h h' st k => ?_)
  · rw [← hK] at hC
    obtain ⟨its2, rv2, p2, hz2⟩ := I.tuple hC
    have D := Draws.tuple (prog := X'.prog) (w := X'.w) (A := X'.A.in1) (I.ok.hd hc) n0 a hne its2.toArray
    have el : its2.toArray.size = xs.length := by rw [List.size_toArray, rv2.length]
    rw [el] at D
    refine ⟨[n0, a], (fun i v => its2.toArray[i]? = some v), (fun i h => h.IsTupleIter n0 a i ∧ h.IsTuple a its2.toArray), ⟨st, p2⟩, fun b hb => ?_, fun u hu => ?_, fun _ _ z => z.1, by rw [← hP, ← hw]; exact D⟩
    · have e' : b = n0 ∨ b = a := by simpa using hb
      rcases e' with z | z
      · exact .inl z
      · exact .inr fun y => hne2 (z.symm.trans y)
    · have hu' : its2.toArray[i]? = some u := hu
      have hi : i < xs.length := by rw [← el]; exact (Array.getElem?_eq_some_iff.mp hu').1
      obtain ⟨u2, hu2, r2⟩ := rv2.get (List.getElem?_eq_getElem hi)
      have e3 : u2 = u := by
        have : its2[i]? = some u := by simpa using hu'
        rw [hu2] at this
        exact Option.some.inj this
      exact ⟨_, List.getElem?_eq_getElem hi, e3 ▸ r2⟩
  · obtain ⟨o, ho, hc, hd⟩ := st
    exact ⟨o, ho, fun v z => by rw [hd] at z; cases z⟩
  · exact st.at fun o e => k o e
def iEnumT (K : PySem.W.Frag) (ta : TA) : TI := fun σ H R => ta σ H fun vs H1 => ∃ a xs, vs = [.ref a] ∧ SqT K H1 a xs ∧ R (ItE (fun H => SqT K H a xs) xs.length (fun i => xs[i]?)) H1
section
variable {X : Cx} {e : Expr} {ta : TA} {p pos tpos : Pos} {elts : List Expr} {kk : Nat}
theorem pi_enumS (hg : Gl X "enumerate") (hm : X.mg "enumerate" = none) (ha : PA X [e] ta) (hs : starEach [e] X.env = [(false, eval e X.env)] := by rfl) :
    PI X (.Tuple elts kk tpos) (.Call (.Name "enumerate" p) [e] [] pos) (iEnumS ta) := by
  refine ⟨fun pins s σ H R I h => ?_⟩
  refine Call_ (ld_blt I hg hm boot_enumerate (PyProof.Rows.callWith_type1 (thn (ha.run pos pins s σ H _ I h) fun us s1 ⟨vs, H1, I1, r1, q1⟩ => ?_) hs rfl))
  obtain ⟨x, ex, q⟩ := q1
  subst ex
  cases r1 with
  | cons r rr =>
    cases rr
    obtain ⟨t, rfl⟩ := r
    refine call_enumerate_str fun h' he hit hsz hk => wpAny_pyIter_enum he ?_
    have I2 : Inv X pins σ H1 { s1 with heap := h' } := I1.kept (t' := s1.toks) hk
    refine ⟨s1.heap.objs.size + 1, [s1.heap.objs.size + 1, s1.heap.objs.size], _, _, H1, rfl, I2,
      turn_enumD (fun _ => True) (s1.heap.objs.size + 1) s1.heap.objs.size x.cps.size (sgn x) (fun i h => h.IsStrIter s1.heap.objs.size (strIterType x) x t i)
        (fun X hP hw hK hc pins σ H s I _ i st => ⟨[s1.heap.objs.size], _, _, st, fun b hb => .inl (by simpa using hb), fun u hu => ?_, fun _ _ z => z, Draws.text (A := X.A.in1) (I.ok.hd hc) _ x t⟩) (fun i h st => ?_) (fun i h h' st k => ?_), ⟨⟨.none, he⟩, hit, Nat.succ_ne_self _⟩, fun b hb => ?_, q⟩
    · obtain ⟨c, u', hc, rfl⟩ := hu
      exact ⟨.str ⟨#[c]⟩, by unfold sgn; rw [hc]; rfl, ⟨u', rfl⟩⟩
    · obtain ⟨o, ho, hc, hd⟩ := st
      exact ⟨o, ho, fun v z => by rw [hd] at z; cases z⟩
    · obtain ⟨o, ho, hc, hd⟩ := st
      exact ⟨o, k o ho, hc, hd⟩
    · have e' : b = s1.heap.objs.size + 1 ∨ b = s1.heap.objs.size := by simpa using hb
      have hle : s1.heap.objs.size ≤ b := by
        rcases e' with z | z
        · rw [z]; exact Nat.le_add_right _ _
        · rw [z]; exact Nat.le_refl _
      exact I1.fpOk hle (I1.hok.fresh hle)
theorem pi_enumT (hg : Gl X "enumerate") (hm : X.mg "enumerate" = none) (ha : PA X [e] ta) (hs : starEach [e] X.env = [(false, eval e X.env)] := by rfl) :
    PI X (.Tuple elts kk tpos) (.Call (.Name "enumerate" p) [e] [] pos) (iEnumT X.K ta) := by
  refine ⟨fun pins s σ H R I h => ?_⟩
  refine Call_ (ld_blt I hg hm boot_enumerate (PyProof.Rows.callWith_type1 (thn (ha.run pos pins s σ H _ I h) fun us s1 ⟨vs, H1, I1, r1, q1⟩ => ?_) hs rfl))
  obtain ⟨a, xs, ex, hq, q⟩ := q1
  subst ex
  cases r1 with
  | cons r rr =>
    cases rr
    cases r
    obtain ⟨its, rv, p', hz⟩ := I1.tuple hq
    refine call_enumerate_tup (show s1.heap.IsTuple a its.toArray from p') fun h' he hit hsz hk => wpAny_pyIter_enum he ?_
    have I2 : Inv X pins σ H1 { s1 with heap := h' } := I1.kept (t' := s1.toks) hk
    obtain ⟨oa, hoa, _⟩ := id p'
    refine ⟨s1.heap.objs.size + 1, [s1.heap.objs.size + 1, s1.heap.objs.size], _, _, H1, rfl, I2, turn_enumT (Heap.lt_size hoa), ⟨⟨.none, he⟩, hit, Nat.succ_ne_self _⟩, fun b hb => ?_, q⟩
    · have e' : b = s1.heap.objs.size + 1 ∨ b = s1.heap.objs.size := by simpa using hb
      have hle : s1.heap.objs.size ≤ b := by
        rcases e' with z | z
        · rw [z]; exact Nat.le_add_right _ _
        · rw [z]; exact Nat.le_refl _
      exact I1.fpOk hle (I1.hok.fresh hle)
end
end Fy

set_option Elab.async false
set_option linter.all false
set_option maxRecDepth 100000
set_option maxHeartbeats 4000000
namespace Fy
open PySem PySem.Spec PyProof.Rows L2

/-! ### dicts whose keys are (int, tuple of ints) -/
abbrev NK := Int × List Int
def nk (k : NK) : NestedKey := .tup [.num k.1, .tup (k.2.map .num)]
/-- the entries: key, where its tuple stands, value -/
abbrev NE := NK × Addr × V
def NRel (x : NE) (y : NestedKey × Addr × Value) : Prop := y.1 = nk x.1 ∧ y.2.1 = x.2.1 ∧ RelV x.2.2 y.2.2
def NDo (P : Program) (w : World) (a : Addr) (xs : List NE) : HO := .ext fun h =>
  xs.length ≤ sizeLine ∧ (a == sysModules) = false ∧ ∃ ys : List (NestedKey × Addr × Value), Paired NRel xs ys ∧
    ∃ o es ep, h.get? a = some o ∧ o.ExactDict ∧ o.data = .dict es ep ∧ es.toList = ys.map (entryOfKey (nestedKind P w)) ∧ (ys.map (·.1)).Nodup
/-- the tuple of a key stands at q -/
def NKAt (H : Hp) (q : Addr) (k : NK) : Prop := ∃ r, H q = some (.tup [.int k.1, .ref r]) ∧ H r = some (.tup (k.2.map V.int))
/-- at a stands such a dict -/
def NDict (P : Program) (w : World) (H : Hp) (a : Addr) (xs : List NE) : Prop := H a = some (NDo P w a xs) ∧ ∀ x ∈ xs, NKAt H x.2.1 x.1
theorem nk_inj {a b : NK} (h : nk a = nk b) : a = b := by
  obtain ⟨a1, a2⟩ := a
  obtain ⟨b1, b2⟩ := b
  unfold nk at h
  simp only [NestedKey.tup.injEq, List.cons.injEq, NestedKey.num.injEq, and_true] at h
  obtain ⟨h1, h2⟩ := h
  have : a2 = b2 := by
    have z := congrArg (List.map fun k : NestedKey => match k with | .num i => i | _ => 0) h2
    simpa [List.map_map, Function.comp_def] using z
  rw [h1, this]

section
variable {P : Program} {w : World} {H : Hp} {h : Heap} {q a : Addr} {k : NK}
theorem nall_ints : ∀ {js : List Int} {us : List Value}, Vals (js.map V.int) us → NestedAll h (js.map .num) us
  | [], _, r => by rw [List.map_nil] at r; cases r; exact .nil
  | j :: js, _, r => by
    rw [List.map_cons] at r
    cases r with
    | cons r1 rr =>
      obtain ⟨t, rfl⟩ := r1
      exact .cons (.int j t) (nall_ints rr)
theorem depth_ints : ∀ js : List Int, NestedKey.depthAll (js.map .num) = 0
  | [] => by simp [NestedKey.depthAll]
  | j :: js => by simp [NestedKey.depthAll, NestedKey.depth, depth_ints js]
theorem nk_is (ok : HOk P w H h) (e : NKAt H q k) : (nestedKind P w).is h (nk k) q := by
  obtain ⟨r, h1, h2⟩ := e
  obtain ⟨_, its, rv, o, ho, hc, n, hd⟩ := (show ObjOk P w H h q (.tup [.int k.1, .ref r]) from ok q _ h1)
  obtain ⟨_, its2, rv2, o2, ho2, hc2, n2, hd2⟩ := (show ObjOk P w H h r (.tup (k.2.map V.int)) from ok r _ h2)
  cases rv with
  | cons r1 rr =>
    cases rr with
    | cons r2 rr =>
      cases rr
      obtain ⟨t, rfl⟩ := r1
      cases r2
      refine ⟨.tup ho hc hd (.cons (.int _ t) (.cons (.tup ho2 hc2 hd2 (nall_ints (by simpa using rv2))) .nil)), ?_⟩
      show NestedKey.depth (nk k) ≤ 8
      simp [nk, NestedKey.depth, NestedKey.depthAll, depth_ints]
theorem nrel_at {k : NK} : ∀ {xs : List NE} {ys : List (NestedKey × Addr × Value)}, Paired NRel xs ys → (atKey ys (nk k) = none ↔ xs.find? (fun x => decide (x.1 = k)) = none) ∧
    ∀ p, atKey ys (nk k) = some p → ∃ x, xs.find? (fun x => decide (x.1 = k)) = some x ∧ RelV x.2.2 p.2
  | _, _, .nil => ⟨by simp [atKey], fun p hp => by simp [atKey] at hp⟩
  | _, _, @Paired.cons _ _ _ x y xs ys r t => by
    obtain ⟨h1, h2, h3⟩ := r
    by_cases e : x.1 = k
    · have e' : y.1 = nk k := by rw [h1, e]
      refine ⟨?_, fun p hp => ⟨x, by simp [List.find?_cons, e], ?_⟩⟩
      · simp [atKey, List.find?_cons, e, e']
      · simp [atKey, List.find?_cons, e'] at hp
        rw [← hp]; exact h3
    · have e' : ¬ y.1 = nk k := fun z => e (nk_inj (h1.symm.trans z))
      have ih := nrel_at (k := k) t
      have b : atKey (y :: ys) (nk k) = atKey ys (nk k) := by simp [atKey, List.find?_cons, e']
      have c : (x :: xs).find? (fun x => decide (x.1 = k)) = xs.find? (fun x => decide (x.1 = k)) := by simp [List.find?_cons, e]
      rw [b, c]
      exact ih
theorem NDict.mono {H' : Hp} {xs : List NE} (d : NDict P w H a xs) (e : ∀ b o, H b = some o → H' b = some o) : NDict P w H' a xs :=
  ⟨e _ _ d.1, fun x hx => let ⟨r, h1, h2⟩ := d.2 x hx; ⟨r, e _ _ h1, e _ _ h2⟩⟩
theorem nd_ok {xs : List NE} (ok : HOk P w H h) (d : NDict P w H a xs) : xs.length ≤ sizeLine ∧ (a == sysModules) = false ∧ ∃ ys, Paired NRel xs ys ∧ h.DictOfH (nestedKind P w) a ys := by
  obtain ⟨⟨z, hs, ys, rel, o, es, ep, ho, hx, hd, he, hn⟩, _⟩ := (show ObjOk P w H h a (NDo P w a xs) from ok a _ d.1)
  refine ⟨z, hs, ys, rel, o, es, ep, ho, hx, hd, he, fun y hy => ?_, hn⟩
  have all : ∀ {xs : List NE} {ys : List (NestedKey × Addr × Value)}, Paired NRel xs ys → (∀ x ∈ xs, NKAt H x.2.1 x.1) → ∀ y ∈ ys, (nestedKind P w).is h y.1 y.2.1 := by
    intro xs ys r
    induction r with
    | nil => intro _ y hy; cases hy
    | @cons x y' xs ys r t ih =>
      intro hk y hy
      rcases List.mem_cons.mp hy with e | hy
      · subst e
        rw [r.1, r.2.1]
        exact nk_is ok (hk x List.mem_cons_self)
      · exact ih (fun x hx => hk x (List.mem_cons_of_mem _ hx)) y hy
  exact all rel d.2 y hy
theorem nd_obj {xs : List NE} {ys : List (NestedKey × Addr × Value)} (z : xs.length ≤ sizeLine) (hs : (a == sysModules) = false) (rel : Paired NRel xs ys) (d : h.DictOfH (nestedKind P w) a ys) : ObjOk P w H h a (NDo P w a xs) := by
  obtain ⟨o, es, ep, ho, hx, hd, he, _, hn⟩ := d
  exact ⟨⟨z, hs, ys, rel, o, es, ep, ho, hx, hd, he, hn⟩, ⟨o, ho⟩, fun h1 h2 φ k => by
    obtain ⟨z, hs, ys, rel, o, es, ep, ho, hx⟩ := φ
    exact ⟨z, hs, ys, rel, o, es, ep, k _ ho, hx⟩⟩
end

section
variable {X : Cx}
/-- {}: to be such a dict -/
def tNdNew (P : Program) (w : World) : TE := fun _ H Q => ∀ p, H p = none → Q (.ref p) (upd H p (NDo P w p []))
theorem pe_ndNew {pos : Pos} : PE X (.Dict [] [] pos) (tNdNew X.prog X.w) := ⟨fun pins s σ H Q I h =>
  wpAny_Dict_empty ⟨.ref s.heap.objs.size, _, I.laid (a := s.heap.objs.size) (o := NDo X.prog X.w s.heap.objs.size []) (t' := s.toks) (fun _ _ q => Heap.get?_push_of_some _ q) (Nat.le_refl _)
    (nd_obj (Nat.zero_le _) (beq_eq_false_iff_ne.mpr (Ne.symm (Nat.ne_of_lt I.big))) .nil (Heap.DictOfH.new s.heap)), rfl, h _ (I.hok.fresh (Nat.le_refl _))⟩⟩
/-- d.setdefault(k, v) -/
def tNdSet (P : Program) (w : World) (td tk tv : TE) : TE := fun σ H Q => td σ H fun x H1 => ∃ a, x = .ref a ∧ (∃ xs, NDict P w H1 a xs) ∧ tk σ H1 fun y H2 => tv σ H2 fun z H3 =>
  ∃ xs q k, y = .ref q ∧ NDict P w H3 a xs ∧ NKAt H3 q k ∧ xs.length < sizeLine ∧ (∀ x, xs.find? (fun x => decide (x.1 = k)) = some x → Q x.2.2 H3) ∧
    (xs.find? (fun x => decide (x.1 = k)) = none → Q z (upd H3 a (NDo P w a (xs ++ [(k, q, z)]))))
theorem pe_ndSet {o e f : Expr} {apos cpos : Pos} {td tk tv : TE} (hu : X.A.units + 9 < cLine) (ho : PE X o td) (he : PE X e tk) (hf : PE X f tv) (m : M2 X o "setdefault" apos e f cpos) :
    PE X (.Call (.Attribute o "setdefault" apos) [e, f] [] cpos) (tNdSet X.prog X.w td tk tv) := by
  refine ⟨fun pins s σ H Q I h => ?_⟩
  refine wpAny_Call_method m.base m.few m.line PySem.F.plainAttrs_dict PySem.F.slot_dict_setdefault PySem.F.type_dict_setdefault (thn (ho.run pins s σ H _ I h) fun u s1 ⟨x, H1, I1, rx, a, ex, ⟨xs0, d0⟩, q1⟩ => ?_)
  subst ex
  obtain rfl : u = Value.ref a := rx
  obtain ⟨z0, hs0, ys0, rel0, dd0⟩ := nd_ok I1.hok d0
  refine ⟨dd0.typeIs, fun b e => ?_, ?_⟩
  · cases e
    obtain ⟨ob, _, _, h1, h2, _⟩ := dd0
    exact ⟨ob, h1, h2.2.1⟩
  rw [m.trees]
  refine Calls.callWith_builtin rfl (Calls.evalArgs_plain (Calls.spliced_cons (thn (he.run pins s1 σ H1 _ I1 q1) fun iv s2 ⟨y, H2, I2, ry, q2⟩ =>
    Calls.spliced_cons (thn (hf.run pins s2 σ H2 _ I2 q2) fun fv s3 ⟨z, H3, I3, rz, xs, q, k, ey, d, nk, hl, f1, f2⟩ => Calls.spliced_nil ?_))))
  subst ey
  obtain rfl : iv = Value.ref q := ry
  obtain ⟨hz, hs, ys, rel, dd⟩ := nd_ok I3.hok d
  have hlen : ys.length = xs.length := (Paired.length rel).symm
  refine call_setdefault_heap (knd := nestedKind X.prog X.w) (k := Fy.nk k) (hsz := by rw [hlen]; exact hz) (by show X.A.in1.units + 8 < cLine; rw [Around.in1_units]; omega) (nk_is I3.hok nk) hs dd (fun p hp => ?_) fun hn h' dd' hsb => ?_
  · obtain ⟨x, hx, rx⟩ := (nrel_at rel).2 p hp
    exact ⟨_, H3, I3.tok _, rx, f1 x hx⟩
  · have hn' := (nrel_at rel).1.mp hn
    rw [storedH_new hn] at dd'
    have rel' : Paired NRel (xs ++ [(k, q, z)]) (ys ++ [(Fy.nk k, q, fv)]) := by
      have app : ∀ {xs : List NE} {ys : List (NestedKey × Addr × Value)}, Paired NRel xs ys → Paired NRel (xs ++ [(k, q, z)]) (ys ++ [(Fy.nk k, q, fv)]) := by
        intro xs ys r
        induction r with
        | nil => exact .cons ⟨rfl, rfl, rz⟩ .nil
        | cons r t ih => exact .cons r ih
      exact app rel
    refine ⟨z, _, ?_, rz, f2 hn'⟩
    exact d_write I3 (by rw [d.1]; exact True.intro) hsb (let ⟨o, _, _, ho, _⟩ := dd'; ⟨o, ho⟩) (nd_obj (by rw [List.length_append]; show xs.length + 1 ≤ sizeLine; omega) hs rel' dd')
/-- len(d) -/
theorem call_len_nd : CallR X (.builtin "len") (fun xs H Q => ∃ a es, xs = [V.ref a] ∧ NDict X.prog X.w H a es ∧ Q (.int (es.length : Int)) H) := by
  intro pins s σ H xs us Q I r h
  obtain ⟨a, es, rfl, d, q⟩ := h
  obtain ⟨u, rfl, rx⟩ := vals1 r
  obtain rfl : u = Value.ref a := rx
  obtain ⟨hz, hs, ys, rel, dd⟩ := nd_ok I.hok d
  have hlen : ys.length = es.length := (Paired.length rel).symm
  rw [sizeLine_eq] at hz
  refine PyProof.Rows.call_len_slot (n := es.length) dd.typeIs F.slot_dict_len (fun Q' hq => ?_) (by omega) (by omega) ?_
  · refine len_keyed hs ⟨ys, dd, rfl⟩ ?_
    rw [pairsH_length, hlen]
    exact hq
  · exact ⟨.int _, H, I.tok _, ⟨_, rfl⟩, q⟩
end
end Fy

set_option Elab.async false
set_option linter.all false
set_option maxRecDepth 100000
set_option maxHeartbeats 4000000
namespace Fy
open PySem PySem.Spec PyProof.Rows L2

/-! ### a def as its callers need it -/
structure Has (P : Program) (w : World) (K : PySem.W.Frag) (mg : Str → Option Value) (base : Heap) (CX : CXT) (k : Nat) (f : Addr) (ps : List Str) (sp : Sp) : Prop where
  ex : ∃ fd, FnOk P w K mg base CX k f fd ps sp ∧ Binds K fd ps []
  kp : PySem.W.keepIn K (.ref f) = true
section
variable {X : Cx} {CX : CXT} {k : Nat} {f C : Addr} {ps : List Str} {sp : Sp} {E : XK} {x m : Str} {p pos apos : Pos} {e o : Expr} {es : List Expr} {ta : TE} {t : TA}
theorem pe_cX (h : Has X.prog X.w X.K X.mg X.base CX k f ps sp) (hr : Room k X.A) (hm : X.mg x = some (.ref f)) (hx : Passes CX X E) (ha : PA X (e :: es) t) (hg : Gl X x := by rfl)
    (hdb : (x == ("__debug__" : Str)) = false := by decide) (he : starEach (e :: es) X.env = (false, eval e X.env) :: starEach es X.env := by rfl) (hpl : (backTo pos (starEach es X.env)).any (·.1) = false := by rfl) :
    PE X (.Call (.Name x p) (e :: es) [] pos) (tCall sp [] E t) := by
  obtain ⟨fd, F, b⟩ := h.ex
  exact pe_call F hr hg hm h.kp b .nil hx ha hdb he hpl
theorem pe_c (h : Has X.prog X.w X.K X.mg X.base CX0 k f ps sp) (hr : Room k X.A) (hm : X.mg x = some (.ref f)) (ha : PA X (e :: es) t) (hg : Gl X x := by rfl)
    (hdb : (x == ("__debug__" : Str)) = false := by decide) (he : starEach (e :: es) X.env = (false, eval e X.env) :: starEach es X.env := by rfl) (hpl : (backTo pos (starEach es X.env)).any (·.1) = false := by rfl) :
    PE X (.Call (.Name x p) (e :: es) [] pos) (tCall sp [] E0 t) := pe_cX h hr hm pass0 ha hg hdb he hpl
theorem pe_mtX {pl : Sem Bool} (he : PE X o ta) (c : Cls X.K C) (hm : Meth X.K C m f) (h : Has X.prog X.w X.K X.mg X.base CX k f ps sp) (hr : Room k X.A) (hx : Passes CX X E) (ha : PA X (e :: es) t)
    (hst : starEach (e :: es) X.env = (false, eval e X.env) :: starEach es X.env := by rfl) (hpl : (backTo pos (starEach es X.env)).any (·.1) = false := by rfl)
    (hev : eval (.Call (.Attribute o m apos) (e :: es) [] pos) X.env = (do
      let ov ← eval o X.env
      standAt apos.atName
      let (f, first) ← holding [ov] (getMethod ov m pl)
      callWith pos f first (backTo pos (starEach (e :: es) X.env)) (backToKw pos (keywordEach [] X.env))) := by rfl) :
    PE X (.Call (.Attribute o m apos) (e :: es) [] pos) (tMeth C m sp [] E ta t) := by
  obtain ⟨fd, F, b⟩ := h.ex
  exact pe_meth he c hm F hr b .nil hx ha hst hpl hev
theorem pe_mt {pl : Sem Bool} (he : PE X o ta) (c : Cls X.K C) (hm : Meth X.K C m f) (h : Has X.prog X.w X.K X.mg X.base CX0 k f ps sp) (hr : Room k X.A) (ha : PA X (e :: es) t)
    (hst : starEach (e :: es) X.env = (false, eval e X.env) :: starEach es X.env := by rfl) (hpl : (backTo pos (starEach es X.env)).any (·.1) = false := by rfl)
    (hev : eval (.Call (.Attribute o m apos) (e :: es) [] pos) X.env = (do
      let ov ← eval o X.env
      standAt apos.atName
      let (f, first) ← holding [ov] (getMethod ov m pl)
      callWith pos f first (backTo pos (starEach (e :: es) X.env)) (backToKw pos (keywordEach [] X.env))) := by rfl) :
    PE X (.Call (.Attribute o m apos) (e :: es) [] pos) (tMeth C m sp [] E0 ta t) := pe_mtX he c hm h hr pass0 ha hst hpl hev
theorem pe_mk (M : Mk X.K C f) (h : Has X.prog X.w X.K X.mg X.base CX0 k f ps sp) (hr : Room (k + 1) X.A) (hm : X.mg x = some (.ref C)) (ha : PA X (e :: es) t) (hg : Gl X x := by rfl)
    (hdb : (x == ("__debug__" : Str)) = false := by decide) (he : starEach (e :: es) X.env = (false, eval e X.env) :: starEach es X.env := by rfl) (hpl : (backTo pos (starEach es X.env)).any (·.1) = false := by rfl) :
    PE X (.Call (.Name x p) (e :: es) [] pos) (tMake C sp [] E0 t) := by
  obtain ⟨fd, F, b⟩ := h.ex
  exact pe_make M F hr hg hm b .nil pass0 ha hdb he hpl
end

/-! ### heaps -/
theorem sm_new {H : Hp} {p : Addr} {o : HO} (h : H p = none) : Same H (upd H p o) := fun a u e => by
  rw [upd_ne (ne_of_none e h)]; exact e
theorem sm_mut {G H : Hp} {p : Addr} {o : HO} (e : Same G H) (h : G p = none) : Same G (upd H p o) := fun a u ha => by
  rw [upd_ne (ne_of_none ha h)]; exact e a u ha
theorem sm_laid {G H : Hp} {p : Addr} {o : HO} (e : Same G H) (h : H p = none) : Same G (upd H p o) := e.trans (sm_new h)

/-! ### a tracked list or tuple -/
def seqOf : HO → Option (List V)
  | .lst xs => some xs
  | .tup xs => some xs
  | _ => none
/-- at a stands a list or a tuple of xs -/
def Sq (H : Hp) (a : Addr) (xs : List V) : Prop := ∃ o, H a = some o ∧ seqOf o = some xs
theorem Sq.l {H : Hp} {a : Addr} {xs : List V} (h : H a = some (.lst xs)) : Sq H a xs := ⟨_, h, rfl⟩
theorem Sq.t {H : Hp} {a : Addr} {xs : List V} (h : H a = some (.tup xs)) : Sq H a xs := ⟨_, h, rfl⟩
theorem Sq.cases {H : Hp} {a : Addr} {xs : List V} (h : Sq H a xs) : H a = some (.lst xs) ∨ H a = some (.tup xs) := by
  obtain ⟨o, h1, h2⟩ := h
  cases o with
  | lst ys => cases h2; exact .inl h1
  | tup ys => cases h2; exact .inr h1
  | _ => cases h2
theorem Sq.or {K : PySem.W.Frag} {H : Hp} {a : Addr} {xs : List V} (h : Sq H a xs) : SqL K H a xs ∨ SqT K H a xs := h.cases.elim (fun h => .inl (.of h)) (fun h => .inr (.of h))
theorem Sq.mono {H H' : Hp} {a : Addr} {xs : List V} (e : Same H H') (h : Sq H a xs) : Sq H' a xs := let ⟨o, h1, h2⟩ := h; ⟨o, e _ _ h1, h2⟩
theorem Sq.inj {H : Hp} {a : Addr} {xs ys : List V} (h : Sq H a xs) (h' : Sq H a ys) : xs = ys := by
  obtain ⟨o, h1, h2⟩ := h
  obtain ⟨u, h3, h4⟩ := h'
  rw [h1] at h3; cases h3
  rw [h2] at h4; cases h4; rfl
section
variable {X : Cx}
/-- x[i] -/
def rIxQ : R2 := fun x y H Q => ∃ p i xs v, x = .ref p ∧ y = .int i ∧ Sq H p xs ∧ atI xs i = some v ∧ Q v H
theorem ix_q : IxR X rIxQ := by
  intro va sl pins s σ H x y v u Q I rx ry h hs
  obtain ⟨p, i, xs, z, rfl, rfl, hq, ha, q⟩ := h
  rcases hq.cases with h | h
  · exact ix_list va sl pins s σ H _ _ v u Q I rx ry ⟨p, xs, i, z, rfl, rfl, .of h, ha, q⟩ hs
  · exact ix_tup va sl pins s σ H _ _ v u Q I rx ry ⟨p, xs, i, z, rfl, rfl, .of h, ha, q⟩ hs
theorem call_lenQ : CallR X (.builtin "len") (fun vs H Q => ∃ p xs, vs = [.ref p] ∧ Sq H p xs ∧ Q (.int xs.length) H) := by
  intro pins s σ H vs us Q I r h
  obtain ⟨p, xs, rfl, hq, q⟩ := h
  exact call_len_seq pins s σ H _ us Q I r ⟨p, xs, rfl, hq.or, q⟩
theorem call_listQ : CallR X (.type "list") (fun vs H Q => ∃ p xs, vs = [.ref p] ∧ Sq H p xs ∧ ∀ l, H l = none → Q (.ref l) (upd H l (.lst xs))) := by
  intro pins s σ H vs us Q I r h
  obtain ⟨p, xs, rfl, hq, q⟩ := h
  exact call_list_of pins s σ H _ us Q I r ⟨p, xs, rfl, hq.or, q⟩
/-- tuple(a list) -/
theorem call_tupL : CallR X (.type "tuple") (fun vs H Q => ∃ p xs, vs = [.ref p] ∧ H p = some (.lst xs) ∧ ∀ l, H l = none → Q (.ref l) (upd H l (.tup xs))) := by
  intro pins s σ H vs us Q I r h
  obtain ⟨p, xs, rfl, hq, q⟩ := h
  exact call_tuple_of pins s σ H _ us Q I r ⟨p, xs, rfl, .inl ⟨.of hq, q⟩⟩
theorem call_intI : CallR X (.type "int") (fun vs H Q => ∃ i, vs = [.int i] ∧ Q (.int i) H) := by
  intro pins s σ H vs us Q I r h
  obtain ⟨i, rfl, q⟩ := h
  exact call_int1 pins s σ H _ us Q I r (.inl ⟨i, rfl, q⟩)
theorem call_intB : CallR X (.type "int") (fun vs H Q => ∃ k, vs = [.bl k] ∧ Q (.int (if k then 1 else 0)) H) := by
  intro pins s σ H vs us Q I r h
  obtain ⟨i, rfl, q⟩ := h
  exact call_int1 pins s σ H _ us Q I r (.inr ⟨i, rfl, q⟩)
def rInQ (neg : Bool) : R2 := fun x y H Q => ∃ p xs, y = .ref p ∧ Sq H p xs ∧ flatV x = true ∧ xs.all flatV = true ∧ Q (.bl (if neg then !inV x xs else inV x xs)) H
theorem op_inQ : OpR X (compareOp .In) (rInQ false) := by
  intro pins s σ H x y v u Q I rx ry h
  obtain ⟨p, xs, rfl, hq, h1, h2, q⟩ := h
  exact op_in_seq pins s σ H _ _ v u Q I rx ry ⟨p, xs, rfl, hq.or, h1, h2, q⟩
theorem op_notInQ : OpR X (compareOp .NotIn) (rInQ true) := by
  intro pins s σ H x y v u Q I rx ry h
  obtain ⟨p, xs, rfl, hq, h1, h2, q⟩ := h
  exact op_notIn_seq pins s σ H _ _ v u Q I rx ry ⟨p, xs, rfl, hq.or, h1, h2, q⟩
/-- for x in a list or tuple -/
def iSeq (K : PySem.W.Frag) (tl : TE) : TI := fun σ H R => tl σ H fun x H1 => ∃ a xs, x = .ref a ∧ Sq H1 a xs ∧ (H1 a = some (.lst xs) → R (Itl K a) H1) ∧ (H1 a = some (.tup xs) → R (Itt K a) H1)
theorem pi_q {tg l : Expr} {tl : TE} (hl : PE X l tl) : PI X tg l (iSeq X.K tl) := by
  refine ⟨fun pins s σ H R I h => ?_⟩
  refine thn (hl.run pins s σ H _ I h) fun v s1 ⟨x, H1, I1, r1, a, xs, e, hq, q1, q2⟩ => ?_
  subst e
  cases r1
  have fz : ∀ b ∈ [s1.heap.objs.size], FpOk X pins H1 b := fun b hb => by
    rw [show b = s1.heap.objs.size from by simpa using hb]
    exact I1.fpOk (Nat.le_refl _) (I1.hok.fresh (Nat.le_refl _))
  rcases hq.cases with h' | h'
  · obtain ⟨its, rv, p, hz⟩ := I1.list (.of h')
    refine wpAny_pyIter_list p.isList ⟨s1.heap.objs.size, [s1.heap.objs.size], _, _, H1, rfl, I1.kept (t' := s1.toks) fun b o e => Heap.get?_push_of_some _ e, turn_list a _, ⟨_, Heap.get?_push_size _ rfl, rfl, rfl⟩, fz, q1 h'⟩
  · obtain ⟨its, rv, p, hz⟩ := I1.tuple (.of h')
    refine wpAny_pyIter_tuple (show s1.heap.IsTuple a its.toArray from p) ⟨s1.heap.objs.size, [s1.heap.objs.size], _, _, H1, rfl, I1.kept (t' := s1.toks) fun b o e => Heap.get?_push_of_some _ e, turn_tuple a _, ⟨_, Heap.get?_push_size _ rfl, rfl, rfl⟩, fz, q2 h'⟩
/-- what a for asks of its iterator -/
def ForW (g : TG) (tb : TS) (D : Ends) (σ : L2.St) (H : Hp) (J : It) : Prop := ∃ W : Nat → Nat → L2.St → Hp → Prop, (∃ m, W 0 m σ H) ∧ ∀ i m σ H, W i m σ H →
  (J.stop i H ∧ D.nx σ H) ∨ (J.go i H ∧ ∃ N : L2.St → Hp → Prop, (∀ σ' H', N σ' H' → ∃ m', m' < m ∧ W (i + 1) m' σ' H') ∧ ∀ x H', J.yld i H x H' → g x σ H' fun σ2 H2 => tb { D with nx := N, ct := N, bk := D.nx } σ2 H2)
theorem for_q {K : PySem.W.Frag} {a : Addr} {xs : List V} {g : TG} {tb : TS} {D : Ends} {σ : L2.St} {H : Hp} (hq : Sq H a xs) (Pv : Nat → L2.St → Hp → Prop) (h0 : Pv 0 σ H) (hl : ∀ i σ' H', i ≤ xs.length → Pv i σ' H' → ∀ o, H a = some o → H' a = some o)
    (hs : ∀ i x σ' H', xs[i]? = some x → Pv i σ' H' → g x σ' H' fun σ2 H2 => tb { D with nx := Pv (i + 1), ct := Pv (i + 1), bk := D.nx } σ2 H2) (hd : ∀ σ' H', Pv xs.length σ' H' → D.nx σ' H') :
    ∃ a' xs', V.ref a = .ref a' ∧ Sq H a' xs' ∧ (H a' = some (.lst xs') → ForW g tb D σ H (Itl K a')) ∧ (H a' = some (.tup xs') → ForW g tb D σ H (Itt K a')) :=
  ⟨a, xs, rfl, hq, fun h => for_list (K := K) Pv h0 (fun i σ' H' hi p => .of (hl i σ' H' hi p _ h)) hs hd, fun h => for_tup (K := K) Pv h0 (fun i σ' H' hi p => .of (hl i σ' H' hi p _ h)) hs hd⟩
/-- what a comprehension asks -/
def LcW (g : TG) (tt : TT) (te : TE) (vs : List Nat) (σ : L2.St) (H1 : Hp) (D : Addr) (Qd : Hp → Prop) (J : It) : Prop := ∃ W : Nat → Nat → Hp → Prop, (∃ m, W 0 m (upd H1 D (.lst []))) ∧ ∀ i m H, W i m H →
  (J.stop i H ∧ Qd H) ∨ (J.go i H ∧ ∃ Nx : Hp → Prop, (∀ H', Nx H' → ∃ m', m' < m ∧ W (i + 1) m' H') ∧ ∀ x H', J.yld i H x H' → g x (wipe σ vs) H' fun σ2 H2 => wipe σ2 vs = wipe σ vs ∧ tt σ2 H2 fun b H3 =>
    if b = true then te σ2 H3 fun y H4 => ∃ acc, H4 D = some (.lst acc) ∧ acc.length < sizeLine ∧ Nx (upd H4 D (.lst (acc ++ [y]))) else Nx H3)
theorem lc_q {K : PySem.W.Frag} {a : Addr} {xs : List V} {g : TG} {tt : TT} {te : TE} {vs : List Nat} {σ : L2.St} {H : Hp} {Qd : Addr → Hp → Prop} (hq : Sq H a xs) (Pv : Addr → Nat → Hp → Prop) (h0 : ∀ D, H D = none → Pv D 0 (upd H D (.lst []))) (hl : ∀ D i H', i ≤ xs.length → Pv D i H' → ∀ o, H a = some o → H' a = some o)
    (hs : ∀ D i x H', H D = none → xs[i]? = some x → Pv D i H' → g x (wipe σ vs) H' fun σ2 H2 => wipe σ2 vs = wipe σ vs ∧ tt σ2 H2 fun b H3 =>
      if b = true then te σ2 H3 fun y H4 => ∃ acc, H4 D = some (.lst acc) ∧ acc.length < sizeLine ∧ Pv D (i + 1) (upd H4 D (.lst (acc ++ [y]))) else Pv D (i + 1) H3) (hd : ∀ D H', H D = none → Pv D xs.length H' → Qd D H') :
    ∃ a' xs', V.ref a = .ref a' ∧ Sq H a' xs' ∧ (H a' = some (.lst xs') → ∀ D, H D = none → LcW g tt te vs σ H D (Qd D) (Itl K a')) ∧ (H a' = some (.tup xs') → ∀ D, H D = none → LcW g tt te vs σ H D (Qd D) (Itt K a')) :=
  ⟨a, xs, rfl, hq, fun h D hD => lc_list (K := K) (Pv D) (h0 D hD) (fun i H' hi p => .of (hl D i H' hi p _ h)) (fun i x H' => hs D i x H' hD) (fun H' => hd D H' hD),
    fun h D hD => lc_tup (K := K) (Pv D) (h0 D hD) (fun i H' hi p => .of (hl D i H' hi p _ h)) (fun i x H' => hs D i x H' hD) (fun H' => hd D H' hD)⟩
/-- enumerate(a list or tuple) -/
def iEnumQ (K : PySem.W.Frag) (ta : TA) : TI := fun σ H R => ta σ H fun vs H1 => ∃ a xs, vs = [.ref a] ∧ Sq H1 a xs ∧ (H1 a = some (.lst xs) → R (Ite K a) H1) ∧ (H1 a = some (.tup xs) → R (ItE (fun H => SqT K H a xs) xs.length (fun i => xs[i]?)) H1)
theorem walk_E {C : Hp → Prop} {n : Nat} {f : Nat → Option V} : Walk (ItE C n f) n C (YPair (fun i => some (.int (i : Nat))) f) := by
  refine ⟨fun i _ hi q => ⟨q, hi⟩, fun _ q => ⟨q, rfl⟩, fun i H v H' _ q y => ?_⟩
  obtain ⟨T, x, h1, h2, h3, h4⟩ := y
  exact ⟨T, _, x, h1, h2, h3, rfl, h4⟩
theorem pi_enumQ {e : Expr} {ta : TA} {p pos tpos : Pos} {elts : List Expr} {kk : Nat} (hg : Gl X "enumerate") (hm : X.mg "enumerate" = none) (ha : PA X [e] ta) (hs : starEach [e] X.env = [(false, eval e X.env)] := by rfl) :
    PI X (.Tuple elts kk tpos) (.Call (.Name "enumerate" p) [e] [] pos) (iEnumQ X.K ta) := by
  refine ⟨fun pins s σ H R I h => ?_⟩
  refine Call_ (ld_blt I hg hm boot_enumerate (PyProof.Rows.callWith_type1 (thn (ha.run pos pins s σ H _ I h) fun us s1 ⟨vs, H1, I1, r1, q1⟩ => ?_) hs rfl))
  obtain ⟨a, xs, ex, hq, q1, q2⟩ := q1
  subst ex
  cases r1 with
  | cons r rr =>
    cases rr
    cases r
    have hz : ∀ {h' : Heap} (b : Addr), b ∈ [s1.heap.objs.size + 1, s1.heap.objs.size] → FpOk X pins H1 b := fun b hb => by
      have e' : b = s1.heap.objs.size + 1 ∨ b = s1.heap.objs.size := by simpa using hb
      have hle : s1.heap.objs.size ≤ b := by
        rcases e' with z | z
        · rw [z]; exact Nat.le_add_right _ _
        · rw [z]; exact Nat.le_refl _
      exact I1.fpOk hle (I1.hok.fresh hle)
    rcases hq.cases with h' | h'
    · obtain ⟨its, rv, p', hz'⟩ := I1.list (.of h')
      refine call_enumerate_list p'.isList fun h2 he hit hsz hk => wpAny_pyIter_enum he ?_
      exact ⟨s1.heap.objs.size + 1, [s1.heap.objs.size + 1, s1.heap.objs.size], _, _, H1, rfl, I1.kept (t' := s1.toks) hk, turn_enum a (s1.heap.objs.size + 1) s1.heap.objs.size, ⟨⟨.none, he⟩, hit, Nat.succ_ne_self _⟩, hz (h' := h2), q1 h'⟩
    · obtain ⟨its, rv, p', hz'⟩ := I1.tuple (.of h')
      refine call_enumerate_tup (show s1.heap.IsTuple a its.toArray from p') fun h2 he hit hsz hk => wpAny_pyIter_enum he ?_
      exact ⟨s1.heap.objs.size + 1, [s1.heap.objs.size + 1, s1.heap.objs.size], _, _, H1, rfl, I1.kept (t' := s1.toks) hk, turn_enumT (Heap.lt_size p'.choose_spec.1), ⟨⟨.none, he⟩, hit, Nat.succ_ne_self _⟩, hz (h' := h2), q2 h'⟩
/-- for i, x in enumerate(..): two names -/
theorem for_enumQ {K : PySem.W.Frag} {a : Addr} {xs : List V} {ia ix : Nat} {tb : TS} {D : Ends} {σ : L2.St} {H : Hp} (hq : Sq H a xs) (Pv : Nat → L2.St → Hp → Prop) (h0 : Pv 0 σ H) (hl : ∀ i σ' H', i ≤ xs.length → Pv i σ' H' → ∀ o, H a = some o → H' a = some o)
    (hs : ∀ i x σ' H' H2, xs[i]? = some x → Pv i σ' H' → Same H' H2 → tb { D with nx := Pv (i + 1), ct := Pv (i + 1), bk := D.nx } ((σ'.set ia (some (.int (i : Nat)))).set ix (some x)) H2) (hd : ∀ σ' H', Pv xs.length σ' H' → D.nx σ' H') :
    ∃ a' xs', [V.ref a] = [.ref a'] ∧ Sq H a' xs' ∧ (H a' = some (.lst xs') → ForW (gTup K 2 (gCons (gName ia) (gCons (gName ix) gNil))) tb D σ H (Ite K a')) ∧
      (H a' = some (.tup xs') → ForW (gTup K 2 (gCons (gName ia) (gCons (gName ix) gNil))) tb D σ H (ItE (fun H => SqT K H a' xs') xs'.length (fun i => xs'[i]?))) := by
  have go : ∀ {J : It} {G : Hp → Prop}, Walk J xs.length G (YPair (fun i => some (.int (i : Nat))) (fun i => xs[i]?)) → (∀ i σ' H', i ≤ xs.length → Pv i σ' H' → G H') → ForW (gTup K 2 (gCons (gName ia) (gCons (gName ix) gNil))) tb D σ H J := fun wk hG =>
    for_it wk Pv h0 hG (fun i v σ' H' H2 hi p y => by
      obtain ⟨T, x, z, rfl, hT, rfl, h1, h2⟩ := y
      cases h1
      exact ⟨T, _, rfl, .of upd_same, rfl, _, _, rfl, _, _, rfl, rfl, hs i z σ' H' _ h2 p (sm_new hT)⟩) hd
  exact ⟨a, xs, rfl, hq, fun h => go walk_enum (fun i σ' H' hi p => .of (hl i σ' H' hi p _ h)), fun h => go walk_E (fun i σ' H' hi p => .of (hl i σ' H' hi p _ h))⟩
end
end Fy

set_option Elab.async false
set_option linter.all false
set_option maxRecDepth 100000
set_option maxHeartbeats 4000000
namespace Fy
open PySem PySem.Spec PyProof.Rows L2
/-! ### a def by its body -/
abbrev DefF (K : PySem.W.Frag) (x qual : Str) (st : Stmt) (f : Addr) : Prop := ∃ fd, FunD K x qual (defArgs st) (defBody st) (defScope st) [] [] f fd
section
variable {P : Program} {w : World} {K : PySem.W.Frag} {mg : Str → Option Value} {base : Heap}
theorem has_of {x qual : Str} {st : Stmt} {f : Addr} {N ps : List Str} {k : Nat} {sp : Sp} (F : DefF K x qual st f) (S : FnScope N ps (defScope st))
    (bd : ∀ (kV doc pm : Value) (an : Option Addr) (cdv ct : Value) (us : List Value), us.length = ps.length → bindArgs (PySem.W.fnOf x qual (defArgs st) (defBody st) (defScope st) .none kV doc pm an cdv ct) ⟨us, []⟩ = pure (ps.zip us))
    (len : ∀ vs H Q E, sp vs H Q E → vs.length = ps.length)
    (hbody : ∀ (cdv : Value) (A : Around) (outer : List Env) (s : Shared) (H : Hp) (vs : List V) (Q : VK) (E : XK), Room k (A.deeper (envOfC qual (defScope st) s.heap.objs.size f cdv)) → sp vs H Q E →
      ∃ t, PSs (cxOf CX0 P w K mg base N qual (defScope st) f cdv A outer s H E).nox (defBody st) t ∧ t { nx := fun _ H' => Q .non H', rt := Q } (start N vs) H) : Has P w K mg base CX0 (k + 1) f ps sp := by
  obtain ⟨fd, F⟩ := F
  exact ⟨⟨fd, F.ok S len fun cdv A outer s H vs Q E hr h => let ⟨t, h1, h2⟩ := hbody cdv A outer s H vs Q E hr h; ⟨t, h1.nox, h2⟩, F.bindsN bd⟩, F.kp⟩
theorem Has.mono {CX : CXT} {j k : Nat} {f : Addr} {ps : List Str} {sp : Sp} (h : Has P w K mg base CX j f ps sp) (e : j ≤ k) : Has P w K mg base CX k f ps sp :=
  let ⟨⟨fd, F, b⟩, kp⟩ := h; ⟨⟨fd, F.mono e, b⟩, kp⟩
end

/-! ### indices -/
theorem atI_int {α : Type} {xs : List α} {i : Int} {v : α} (h0 : 0 ≤ i) (h : xs[i.toNat]? = some v) : atI xs i = some v := by
  obtain ⟨n, rfl⟩ := Int.eq_ofNat_of_zero_le h0
  exact atI_nat h
theorem ixN_int {n : Nat} {i : Int} (h0 : 0 ≤ i) (h : i.toNat < n) : ixN n i = some i.toNat := by
  unfold ixN
  rw [if_pos h0, if_pos (by omega)]
/-- ns[i] -/
def gi (ns : List Int) (i : Int) : Int := ns.getD i.toNat 0
theorem gi_at {ns : List Int} {i : Int} (h0 : 0 ≤ i) (h : i < ns.length) : (ns.map V.int)[i.toNat]? = some (.int (gi ns i)) := by
  unfold gi
  rw [List.getElem?_map, List.getD_eq_getElem?_getD, List.getElem?_eq_getElem (by omega)]
  rfl
theorem atI_gi {ns : List Int} {i : Int} (h0 : 0 ≤ i) (h : i < ns.length) : atI (ns.map V.int) i = some (.int (gi ns i)) := atI_int h0 (gi_at h0 h)
/-- bs[i] -/
def gb (bs : List Bool) (i : Int) : Bool := bs.getD i.toNat false
theorem atI_gb {bs : List Bool} {i : Int} (h0 : 0 ≤ i) (h : i < bs.length) : atI (bs.map V.bl) i = some (.bl (gb bs i)) := by
  refine atI_int h0 ?_
  unfold gb
  rw [List.getElem?_map, List.getD_eq_getElem?_getD, List.getElem?_eq_getElem (by omega)]
  rfl
theorem map_set_int (ns : List Int) (k : Nat) (i : Int) : (ns.map V.int).set k (.int i) = (ns.set k i).map V.int := by rw [List.map_set]
theorem map_set_bl (bs : List Bool) (k : Nat) (b : Bool) : (bs.map V.bl).set k (.bl b) = (bs.set k b).map V.bl := by rw [List.map_set]
theorem flat_ints (ns : List Int) : (ns.map V.int).all flatV = true := by
  rw [List.all_eq_true]; intro x hx
  obtain ⟨i, _, rfl⟩ := List.mem_map.mp hx
  rfl
theorem inV_ints (i : Int) (ns : List Int) : inV (.int i) (ns.map V.int) = decide (i ∈ ns) := by
  unfold inV
  rw [List.any_map]
  induction ns with
  | nil => simp
  | cons n ns ih =>
    rw [List.any_cons, ih]
    have : (Function.comp (fun y => eqV y (V.int i)) V.int) n = decide (n = i) := by
      show eqV (.int n) (.int i) = _
      unfold eqV
      first | rfl | simp [Bool.beq_eq_decide_eq]
    rw [this]
    by_cases e : n = i
    · subst e; simp
    · have e' : ¬ i = n := fun z => e z.symm
      simp [e, e']
end Fy

set_option Elab.async false
set_option linter.all false
set_option maxRecDepth 100000
set_option maxHeartbeats 4000000
namespace Fy
open PySem PySem.Spec PyProof.Rows L2

/-! ### lists of ints, rows -/
def Ints (H : Hp) (a : Addr) (ns : List Int) : Prop := Sq H a (ns.map V.int)
theorem Ints.mono {H H' : Hp} {a : Addr} {ns : List Int} (e : Same H H') (h : Ints H a ns) : Ints H' a ns := Sq.mono e h
theorem map_int_inj {a b : List Int} (h : a.map V.int = b.map V.int) : a = b := by
  have := congrArg (List.map fun v : V => match v with | .int i => i | _ => 0) h
  simpa [List.map_map, Function.comp_def] using this
/-- the rows at ps, one by one -/
def All2 {α β : Type} (R : α → β → Prop) : List α → List β → Prop
  | [], [] => True
  | a :: as, b :: bs => R a b ∧ All2 R as bs
  | _, _ => False
theorem All2.length {α β : Type} {R : α → β → Prop} : ∀ {as : List α} {bs : List β}, All2 R as bs → as.length = bs.length
  | [], [], _ => rfl
  | _ :: _, _ :: _, h => by rw [List.length_cons, List.length_cons, All2.length h.2]
  | [], _ :: _, h => h.elim
  | _ :: _, [], h => h.elim
theorem All2.imp {α β : Type} {R S : α → β → Prop} (f : ∀ a b, R a b → S a b) : ∀ {as : List α} {bs : List β}, All2 R as bs → All2 S as bs
  | [], [], _ => trivial
  | _ :: _, _ :: _, h => ⟨f _ _ h.1, All2.imp f h.2⟩
  | [], _ :: _, h => h.elim
  | _ :: _, [], h => h.elim
theorem All2.imp_mem {α β : Type} {R S : α → β → Prop} : ∀ {as : List α} {bs : List β}, (∀ a b, a ∈ as → R a b → S a b) → All2 R as bs → All2 S as bs
  | [], [], _, _ => trivial
  | _ :: _, _ :: _, f, h => ⟨f _ _ List.mem_cons_self h.1, All2.imp_mem (fun a b ha => f a b (List.mem_cons_of_mem _ ha)) h.2⟩
  | [], _ :: _, _, h => h.elim
  | _ :: _, [], _, h => h.elim
theorem All2.get {α β : Type} {R : α → β → Prop} : ∀ {as : List α} {bs : List β} {i : Nat} {b : β}, All2 R as bs → bs[i]? = some b → ∃ a, as[i]? = some a ∧ R a b
  | [], [], i, b, _, e => by simp at e
  | a :: _, b :: _, 0, _, h, e => by simp at e; subst e; exact ⟨a, rfl, h.1⟩
  | _ :: _, _ :: _, i + 1, b, h, e => by
    obtain ⟨a, h1, h2⟩ := All2.get (i := i) h.2 (by simpa using e)
    exact ⟨a, by simpa using h1, h2⟩
  | [], _ :: _, _, _, h, _ => h.elim
  | _ :: _, [], _, _, h, _ => h.elim
theorem All2.snoc {α β : Type} {R : α → β → Prop} : ∀ {as : List α} {bs : List β} {a : α} {b : β}, All2 R as bs → R a b → All2 R (as ++ [a]) (bs ++ [b])
  | [], [], _, _, _, r => ⟨r, trivial⟩
  | _ :: _, _ :: _, _, _, h, r => ⟨h.1, All2.snoc h.2 r⟩
  | [], _ :: _, _, _, h, _ => h.elim
  | _ :: _, [], _, _, h, _ => h.elim
def RowsAt (H : Hp) (ps : List Addr) (rows : List (List Int)) : Prop := All2 (Ints H) ps rows
theorem RowsAt.mono {H H' : Hp} {ps : List Addr} {rows : List (List Int)} (e : Same H H') (h : RowsAt H ps rows) : RowsAt H' ps rows := All2.imp (fun _ _ => Ints.mono e) h
def Rows (H : Hp) (a : Addr) (rows : List (List Int)) : Prop := ∃ ps : List Addr, Sq H a (ps.map V.ref) ∧ RowsAt H ps rows
theorem Rows.mono {H H' : Hp} {a : Addr} {rows : List (List Int)} (e : Same H H') (h : Rows H a rows) : Rows H' a rows := let ⟨ps, h1, h2⟩ := h; ⟨ps, h1.mono e, h2.mono e⟩

/-! ### all but one object as it was -/
def But (st : Addr) (H H' : Hp) : Prop := ∀ b o, b ≠ st → H b = some o → H' b = some o
theorem But.refl (st : Addr) (H : Hp) : But st H H := fun _ _ _ h => h
theorem But.trans {st : Addr} {H H1 H2 : Hp} (a : But st H H1) (b : But st H1 H2) : But st H H2 := fun c o n h => b c o n (a c o n h)
theorem But.of_same {st : Addr} {H H' : Hp} (e : Same H H') : But st H H' := fun b o _ h => e b o h
theorem But.upd (st : Addr) (H : Hp) (o : HO) : But st H (upd H st o) := fun b u n h => by rw [upd_ne n]; exact h
def hid (st : Addr) (H : Hp) : Hp := fun b => if b = st then none else H b
theorem hid_at {st : Addr} {H : Hp} : hid st H st = none := by unfold hid; rw [if_pos rfl]
theorem hid_ne {st b : Addr} {H : Hp} (n : b ≠ st) : hid st H b = H b := by unfold hid; rw [if_neg n]
theorem hid_same {st : Addr} {H : Hp} : Same (hid st H) H := fun b o h => by
  by_cases e : b = st
  · subst e; rw [hid_at] at h; cases h
  · rw [hid_ne e] at h; exact h
theorem But.same {st : Addr} {H H' : Hp} (b : But st H H') : Same (hid st H) H' := fun c o h => by
  by_cases e : c = st
  · subst e; rw [hid_at] at h; cases h
  · rw [hid_ne e] at h; exact b c o e h
theorem But.hid {st : Addr} {H H' : Hp} (b : But st H H') : Same (hid st H) (Fy.hid st H') := fun c o h => by
  by_cases e : c = st
  · subst e; rw [hid_at] at h; cases h
  · rw [hid_ne e] at h ⊢; exact b c o e h
theorem same_hid {G H : Hp} {st : Addr} (e : Same G H) (n : G st = none) : Same G (hid st H) := fun c o h => by
  rw [hid_ne (ne_of_none h n)]; exact e c o h
theorem But.of_hid {st : Addr} {G H : Hp} (e : Same (Fy.hid st G) H) : But st G H := fun c o n h => e c o (by rw [hid_ne n]; exact h)

/-! ### the law's own draws: a list of four, its cells, three numbers -/
def SOk (H : Hp) (st : Addr) : Prop := ∃ (ca : Addr) (cells : List Int) (i a j : Int), H st = some (.lst [.ref ca, .int i, .int a, .int j]) ∧ H ca = some (.lst (cells.map V.int)) ∧
  cells ≠ [] ∧ 0 ≤ i ∧ 0 ≤ a ∧ 0 ≤ j ∧ ∀ c ∈ cells, 0 ≤ c
theorem SOk.mono {H H' : Hp} {st : Addr} (e : Same H H') (h : SOk H st) : SOk H' st :=
  let ⟨ca, cells, i, a, j, h1, h2, h3⟩ := h; ⟨ca, cells, i, a, j, e _ _ h1, e _ _ h2, h3⟩
theorem SOk.ints {H : Hp} {st a : Addr} {ns : List Int} (s : SOk H st) (h : Ints H a ns) : a ≠ st := by
  rintro rfl
  obtain ⟨ca, cells, i, b, j, h1, _⟩ := s
  have := Sq.inj (.l h1) h
  cases ns with
  | nil => cases this
  | cons n ns => simp at this
theorem SOk.refs {H : Hp} {st a : Addr} {ps : List Addr} (s : SOk H st) (h : Sq H a (ps.map V.ref)) : a ≠ st := by
  rintro rfl
  obtain ⟨ca, cells, i, b, j, h1, _⟩ := s
  have := Sq.inj (.l h1) h
  match ps with
  | [] => cases this
  | [_] => simp at this
  | _ :: _ :: _ => simp at this
theorem SOk.tup {H : Hp} {st a : Addr} {xs : List V} (s : SOk H st) (h : H a = some (.tup xs)) : a ≠ st := by
  rintro rfl
  obtain ⟨ca, cells, i, b, j, h1, _⟩ := s
  rw [h] at h1; cases h1
theorem Sq.hid {H : Hp} {st a : Addr} {xs : List V} (h : Sq H a xs) (n : a ≠ st) : Sq (Fy.hid st H) a xs := let ⟨o, h1, h2⟩ := h; ⟨o, by rw [hid_ne n]; exact h1, h2⟩
theorem Ints.hid {H : Hp} {st a : Addr} {ns : List Int} (h : Ints H a ns) (s : SOk H st) : Ints (Fy.hid st H) a ns := Sq.hid h (s.ints h)
theorem Rows.hid {H : Hp} {st a : Addr} {rows : List (List Int)} (h : Rows H a rows) (s : SOk H st) : Rows (Fy.hid st H) a rows :=
  let ⟨ps, h1, h2⟩ := h; ⟨ps, Sq.hid h1 (s.refs h1), All2.imp (fun _ _ z => Ints.hid z s) h2⟩
theorem Ints.but {H H' : Hp} {st a : Addr} {ns : List Int} (h : Ints H a ns) (s : SOk H st) (b : But st H H') : Ints H' a ns := (h.hid s).mono b.same
theorem Rows.but {H H' : Hp} {st a : Addr} {rows : List (List Int)} (h : Rows H a rows) (s : SOk H st) (b : But st H H') : Rows H' a rows := (h.hid s).mono b.same
/-- the draws' two objects: the state at st, the cells at ca -/
structure Own (H : Hp) (st ca : Addr) : Prop where
  ok : ∃ (cells : List Int) (i a j : Int), H st = some (.lst [.ref ca, .int i, .int a, .int j]) ∧ H ca = some (.lst (cells.map V.int)) ∧ cells ≠ [] ∧ 0 ≤ i ∧ 0 ≤ a ∧ 0 ≤ j ∧ ∀ c ∈ cells, 0 ≤ c
theorem SOk.own {H : Hp} {st : Addr} (h : SOk H st) : ∃ ca, Own H st ca := let ⟨ca, cells, i, a, j, h1, h2, h3⟩ := h; ⟨ca, ⟨cells, i, a, j, h1, h2, h3⟩⟩
theorem Own.sok {H : Hp} {st ca : Addr} (h : Own H st ca) : SOk H st := let ⟨cells, i, a, j, h1, h2, h3⟩ := h.ok; ⟨ca, cells, i, a, j, h1, h2, h3⟩
theorem Own.mono {H H' : Hp} {st ca : Addr} (h : Own H st ca) (e : Same H H') : Own H' st ca := let ⟨cells, i, a, j, h1, h2, h3⟩ := h.ok; ⟨cells, i, a, j, e _ _ h1, e _ _ h2, h3⟩
theorem Own.upd {H : Hp} {st ca b : Addr} {o : HO} (h : Own H st ca) (n1 : b ≠ st) (n2 : b ≠ ca) : Own (upd H b o) st ca := let ⟨cells, i, a, j, h1, h2, h3⟩ := h.ok; ⟨cells, i, a, j, by rw [upd_ne (Ne.symm n1)]; exact h1, by rw [upd_ne (Ne.symm n2)]; exact h2, h3⟩
theorem Own.new {H : Hp} {st ca b : Addr} (h : Own H st ca) (n : H b = none) : b ≠ st ∧ b ≠ ca := let ⟨cells, i, a, j, h1, h2, _⟩ := h.ok; ⟨Ne.symm (ne_of_none h1 n), Ne.symm (ne_of_none h2 n)⟩
theorem Own.ne {H : Hp} {st ca : Addr} (h : Own H st ca) : ca ≠ st := by
  obtain ⟨cells, i, a, j, h1, h2, _⟩ := h.ok
  exact h.sok.ints (ns := cells) (.l h2)
/-- a draw -/
def spNext : Sp := fun vs H Q _ => ∃ (st : Addr) (many : Int) (ca : Addr), vs = [.ref st, .int many] ∧ Own H st ca ∧ 0 < many ∧ many < 1073741824 ∧ ∀ r H', 0 ≤ r → r < many → Own H' st ca → But st H H' → Q (.int r) H'
end Fy

set_option Elab.async false
set_option linter.all false
set_option maxRecDepth 100000
set_option maxHeartbeats 4000000
namespace Fy
open PySem PySem.Spec PyProof.Rows L2
/-! ### letters, machines -/
abbrev cs (l : Str) : List Nat := l.cps.toList
/-- a text of one sign -/
abbrev sg (c : Nat) : Str := ⟨#[c]⟩
structure LOk (l : Str) : Prop where
  pos : 1 ≤ (cs l).length
  four : (cs l).length ≤ 4
  small : ∀ c ∈ cs l, 97 ≤ c ∧ c ≤ 122
  asc : (cs l).Pairwise (· < ·)
theorem len_cs (l : Str) : l.length = (cs l).length := by
  show l.cps.size = _
  simp
structure MOk (n : Nat) (rows : List (List Int)) (ends : List Int) : Prop where
  pos : 0 < rows.length
  few : rows.length ≤ 128
  wide : ∀ r ∈ rows, r.length = n ∧ ∀ x ∈ r, -1 ≤ x ∧ x < rows.length
  asc : ends.Pairwise (· < ·)
  inn : ∀ e ∈ ends, 0 ≤ e ∧ e < rows.length
theorem small_in {c : Nat} (h1 : 97 ≤ c) (h2 : c ≤ 122) : c ∈ cs ("abcdefghijklmnopqrstuvwxyz" : Str) := by
  have : ∀ c : Nat, c < 123 → 97 ≤ c → c ∈ cs ("abcdefghijklmnopqrstuvwxyz" : Str) := by decide +kernel
  exact this c (by omega) h1
theorem list_lt_nil (a : Nat) : ¬ ([a] < ([] : List Nat)) := by simp
theorem list_lt_one {a b : Nat} : ([a] < [b]) ↔ a < b := by
  constructor
  · intro h
    rcases List.cons_lt_cons_iff.mp h with h | h
    · exact h
    · simp at h
  · intro h; exact List.cons_lt_cons_iff.mpr (.inl h)
theorem nil_lt_one {a : Nat} : ([] : List Nat) < [a] := by simp
/-! ### s.index(a sign) -/
theorem occ_one {l : Str} {c k : Nat} (nd : (cs l).Nodup) (h : (cs l)[k]? = some c) : ∃ rest, Builtin.Str.occurrences l (sg c) 0 l.length 1 = k :: rest := by
  have hm : c ∈ cs l := List.mem_of_getElem? h
  have f := PySem.StrLaws.found_one l c
  rw [decide_eq_true hm] at f
  cases e : Builtin.Str.occurrences l (sg c) 0 l.length 1 with
  | nil =>
    have f' : (!(Builtin.Str.occurrences l (sg c) 0 l.length 1).isEmpty) = true := f
    rw [e] at f'; cases f'
  | cons i rest =>
    have hi : i ∈ Builtin.Str.occurrences l (sg c) 0 l.length 1 := by rw [e]; exact List.mem_cons_self
    have sp := PySem.StrLaws.occ_spec l (sg c) 0 l.length 1 i hi
    have hc := (PySem.StrLaws.subAt_one l c i).mp sp
    have hik : i = k := by
      have h1 := List.getElem?_eq_some_iff.mp hc
      have h2 := List.getElem?_eq_some_iff.mp h
      obtain ⟨p1, q1⟩ := h1
      obtain ⟨p2, q2⟩ := h2
      exact (List.getElem_inj nd).mp (q1.trans q2.symm)
    exact ⟨rest, by rw [hik]⟩
theorem mt_ix {X : Cx} : MtR X "str.index" (fun x xs H Q => ∃ (l : Str) (c k : Nat), x = .str l ∧ xs = [.str (sg c)] ∧ (cs l).Nodup ∧ (cs l)[k]? = some c ∧ Q (.int (k : Nat)) H) := by
  intro pins s σ H x xs v us Q I rx rs h
  obtain ⟨l, c, k, rfl, rfl, nd, hk, q⟩ := h
  obtain ⟨rest, e⟩ := occ_one nd hk
  exact mt_sindex pins s σ H _ _ v us Q I rx rs ⟨l, sg c, k, rest, rfl, rfl, e, q⟩
theorem LOk.nodup {l : Str} (h : LOk l) : (cs l).Nodup := h.asc.imp (fun z => Nat.ne_of_lt z)

/-- tuple(a list or tuple) -/
theorem call_tupQ {X : Cx} : CallR X (.type "tuple") (fun vs H Q => ∃ p xs, vs = [.ref p] ∧ Sq H p xs ∧ ∀ l H', Same H H' → H' l = some (.tup xs) → Q (.ref l) H') := by
  intro pins s σ H vs us Q I r h
  obtain ⟨p, xs, rfl, hq, q⟩ := h
  rcases hq.cases with h | h
  · exact call_tuple_of pins s σ H _ us Q I r ⟨p, xs, rfl, .inl ⟨.of h, fun l hl => q l _ (sm_new hl) upd_same⟩⟩
  · exact call_tuple_of pins s σ H _ us Q I r ⟨p, xs, rfl, .inr ⟨.of h, q p H (Same.refl H) h⟩⟩
/-! ### a machine's rows as tuples; the instance -/
def RowsU (H : Hp) (a : Addr) (rows : List (List Int)) : Prop := ∃ ps : List Addr, H a = some (.tup (ps.map V.ref)) ∧ All2 (fun p r => H p = some (.tup (r.map V.int))) ps rows
theorem RowsU.mono {H H' : Hp} {a : Addr} {rows : List (List Int)} (e : Same H H') (h : RowsU H a rows) : RowsU H' a rows := let ⟨ps, h1, h2⟩ := h; ⟨ps, e _ _ h1, All2.imp (fun _ _ => e _ _) h2⟩
theorem RowsU.rows {H : Hp} {a : Addr} {rows : List (List Int)} (h : RowsU H a rows) : Rows H a rows := let ⟨ps, h1, h2⟩ := h; ⟨ps, .t h1, All2.imp (fun _ _ z => .t z) h2⟩
def mf (l : Str) (a e : Addr) : List (Str × V) := putF "ends" (.ref e) (putF "arrows" (.ref a) (putF "letters" (.str l) []))
theorem sn (a b : String) (h : decide ((Str.ofString a) = Str.ofString b) = false := by decide +kernel) : ¬ (Str.ofString a = Str.ofString b) := of_decide_eq_false h
theorem mf_letters (l : Str) (a e : Addr) : (mf l a e).lookup ("letters" : Str) = some (.str l) := by
  unfold mf
  rw [lookup_putF, if_neg (sn "letters" "ends"), lookup_putF, if_neg (sn "letters" "arrows"), lookup_putF, if_pos rfl]
theorem mf_arrows (l : Str) (a e : Addr) : (mf l a e).lookup ("arrows" : Str) = some (.ref a) := by
  unfold mf
  rw [lookup_putF, if_neg (sn "arrows" "ends"), lookup_putF, if_pos rfl]
theorem mf_ends (l : Str) (a e : Addr) : (mf l a e).lookup ("ends" : Str) = some (.ref e) := by
  unfold mf
  rw [lookup_putF, if_pos rfl]
theorem mf_no (l : Str) (a e : Addr) {m : Str} (h1 : ¬ m = "letters") (h2 : ¬ m = "arrows") (h3 : ¬ m = "ends") : (mf l a e).lookup m = none := by
  unfold mf
  rw [lookup_putF, if_neg h3, lookup_putF, if_neg h2, lookup_putF, if_neg h1]
  rfl
/-- at p stands a machine (class at C) -/
def MachAt (C : Addr) (H : Hp) (p : Addr) (l : Str) (rows : List (List Int)) (ends : List Int) : Prop := ∃ dx a e, H p = some (.ins C dx (mf l a e)) ∧ RowsU H a rows ∧ H e = some (.tup (ends.map V.int))
theorem MachAt.mono {C : Addr} {H H' : Hp} {p : Addr} {l : Str} {rows : List (List Int)} {ends : List Int} (e : Same H H') (h : MachAt C H p l rows ends) : MachAt C H' p l rows ends :=
  let ⟨dx, a, b, h1, h2, h3⟩ := h; ⟨dx, a, b, e _ _ h1, h2.mono e, e _ _ h3⟩
/-! ### reading -/
theorem getD_some {α : Type} {l : List α} {i : Nat} {d v : α} (h : l[i]? = some v) : l.getD i d = v := by
  rw [List.getD_eq_getElem?_getD, h]; rfl
def stp (rows : List (List Int)) (q : Int) (p : Nat) : Int := if q < 0 then -1 else (rows.getD q.toNat []).getD p 0
def run1 (rows : List (List Int)) (q : Int) (ps : List Nat) : Int := ps.foldl (stp rows) q
def acc (rows : List (List Int)) (ends : List Int) (ps : List Nat) : Bool := decide (run1 rows 0 ps ∈ ends)
/-- the places of a word's signs -/
def ix (l x : Str) : List Nat := (cs x).map fun c => (cs l).idxOf c
theorem run1_snoc (rows : List (List Int)) (q : Int) (ps : List Nat) (p : Nat) : run1 rows q (ps ++ [p]) = stp rows (run1 rows q ps) p := by
  unfold run1; rw [List.foldl_append]; rfl
theorem stp_range {n : Nat} {rows : List (List Int)} {ends : List Int} (ok : MOk n rows ends) {q : Int} {p : Nat} (h : q < rows.length) (hp : p < n) : -1 ≤ stp rows q p ∧ stp rows q p < rows.length := by
  unfold stp
  split
  · have := ok.pos; omega
  · have hq : q.toNat < rows.length := by omega
    obtain ⟨w1, w2⟩ := ok.wide _ (List.getElem_mem hq)
    have hp' : p < (rows[q.toNat]).length := by omega
    rw [getD_some (List.getElem?_eq_getElem hq), getD_some (List.getElem?_eq_getElem hp')]
    exact w2 _ (List.getElem_mem hp')
theorem run1_range {n : Nat} {rows : List (List Int)} {ends : List Int} (ok : MOk n rows ends) : ∀ (ps : List Nat) (q : Int), -1 ≤ q → q < rows.length → (∀ p ∈ ps, p < n) → -1 ≤ run1 rows q ps ∧ run1 rows q ps < rows.length
  | [], q, h0, h1, _ => ⟨h0, h1⟩
  | p :: ps, q, h0, h1, h => by
    obtain ⟨a, b⟩ := stp_range ok h1 (h p List.mem_cons_self)
    exact run1_range ok ps _ a b fun x hx => h x (List.mem_cons_of_mem _ hx)
/-- the word is of the letters -/
def WOk (l x : Str) : Prop := ∀ c ∈ cs x, c ∈ cs l
theorem ix_lt {l x : Str} (h : WOk l x) : ∀ p ∈ ix l x, p < (cs l).length := fun p hp => by
  obtain ⟨c, hc, rfl⟩ := List.mem_map.mp hp
  exact List.idxOf_lt_length_of_mem (h c hc)
theorem idx_at {l : List Nat} {c : Nat} (h : c ∈ l) : l[l.idxOf c]? = some c := by
  have hlt := List.idxOf_lt_length_of_mem h
  rw [List.getElem?_eq_getElem hlt]
  exact congrArg some (List.getElem_idxOf hlt)
end Fy

set_option Elab.async false
set_option linter.all false
set_option maxRecDepth 100000
set_option maxHeartbeats 4000000
namespace Fy
open PySem PySem.Spec PyProof.Rows L2
/-! ### lists of bools -/
theorem gb_set (bs : List Bool) (k : Nat) (i : Int) : gb (bs.set k true) i = (gb bs i || decide (i.toNat = k ∧ k < bs.length)) := by
  unfold gb
  rw [List.getD_eq_getElem?_getD, List.getD_eq_getElem?_getD, List.getElem?_set]
  by_cases e : k = i.toNat
  · subst e
    by_cases h : i.toNat < bs.length
    · simp [h]
    · simp [h]
  · have e' : ¬ i.toNat = k := fun z => e z.symm
    simp [e, e']
theorem gb_mono (bs : List Bool) (k : Nat) (i : Int) (h : gb bs i = true) : gb (bs.set k true) i = true := by rw [gb_set, h]; rfl
theorem gb_same (bs : List Bool) (i : Int) (h : i.toNat < bs.length) : gb (bs.set i.toNat true) i = true := by rw [gb_set]; simp [h]
def nF (bs : List Bool) : Nat := bs.countP (fun b => !b)
theorem nF_set : ∀ (bs : List Bool) (k : Nat), bs[k]? = some false → nF (bs.set k true) + 1 = nF bs
  | [], k, h => by simp at h
  | b :: bs, 0, h => by
    simp at h; subst h
    show nF (true :: bs) + 1 = nF (false :: bs)
    unfold nF
    rw [List.countP_cons, List.countP_cons]; simp
  | b :: bs, k + 1, h => by
    have ih := nF_set bs k (by simpa using h)
    show nF (b :: bs.set k true) + 1 = nF (b :: bs)
    unfold nF at ih ⊢
    rw [List.countP_cons, List.countP_cons]
    omega
theorem gb_false {bs : List Bool} {i : Int} (h : i.toNat < bs.length) (e : gb bs i = false) : bs[i.toNat]? = some false := by
  unfold gb at e
  rw [List.getD_eq_getElem?_getD, List.getElem?_eq_getElem h] at e
  rw [List.getElem?_eq_getElem h]
  exact congrArg some e
/-! ### rows that point inwards -/
structure ROk (rows : List (List Int)) : Prop where
  pos : 0 < rows.length
  thin : ∀ r ∈ rows, r.length ≤ 4
  inn : ∀ r ∈ rows, ∀ x ∈ r, -1 ≤ x ∧ x < rows.length
theorem MOk.rok {n : Nat} {rows : List (List Int)} {ends : List Int} (h : MOk n rows ends) (n4 : n ≤ 4) : ROk rows := ⟨h.pos, fun r hr => by rw [(h.wide r hr).1]; exact n4, fun r hr => (h.wide r hr).2⟩
/-- the targets of a state -/
def tg (rows : List (List Int)) (q : Int) : List Int := rows.getD q.toNat []
theorem tg_at {rows : List (List Int)} {q : Int} (h : q.toNat < rows.length) : rows[q.toNat]? = some (tg rows q) := by
  unfold tg
  rw [List.getElem?_eq_getElem h, getD_some (List.getElem?_eq_getElem h)]
theorem tg_mem {rows : List (List Int)} {q : Int} (h : q.toNat < rows.length) : tg rows q ∈ rows := List.mem_of_getElem? (tg_at h)
/-- a row is read -/
theorem Rows.item {H : Hp} {a : Addr} {rows : List (List Int)} {q : Int} (h : Rows H a rows) (h0 : 0 ≤ q) (hq : q < rows.length) : ∃ p xs, Sq H a xs ∧ atI xs q = some (.ref p) ∧ Ints H p (tg rows q) := by
  obtain ⟨ps, hS, hR⟩ := h
  obtain ⟨p, hp, hr⟩ := All2.get hR (tg_at (rows := rows) (q := q) (by omega))
  exact ⟨p, _, hS, atI_int h0 (by rw [List.getElem?_map, hp]; rfl), hr⟩
theorem Rows.len {H : Hp} {a : Addr} {rows : List (List Int)} (h : Rows H a rows) : ∃ xs, Sq H a xs ∧ xs.length = rows.length := by
  obtain ⟨ps, hS, hR⟩ := h
  exact ⟨_, hS, by rw [List.length_map]; exact hR.length⟩
theorem int_item {ns : List Int} {i : Nat} {v : V} (h : (ns.map V.int)[i]? = some v) : ∃ n, ns[i]? = some n ∧ v = .int n := by
  rw [List.getElem?_map] at h
  cases e : ns[i]? with
  | none => rw [e] at h; cases h
  | some n => rw [e] at h; exact ⟨n, rfl, (Option.some.inj h).symm⟩
theorem keep_of {H H3 H' : Hp} {p : Addr} {xs : List V} (hq : Sq H p xs) (e3 : Same H H3) (e : Same H H') : ∀ o, H3 p = some o → H' p = some o := fun o h => by
  obtain ⟨u, hu, _⟩ := hq
  have := e3 _ _ hu
  rw [h] at this
  cases this
  exact e _ _ hu
/-! ### reached, living -/
structure Reach (rows : List (List Int)) (bs : List Bool) : Prop where
  len : bs.length = rows.length
  zero : gb bs 0 = true
  clo : ∀ q : Int, 0 ≤ q → q < rows.length → gb bs q = true → ∀ t ∈ tg rows q, 0 ≤ t → gb bs t = true
structure Live (rows : List (List Int)) (ends : List Int) (bs : List Bool) : Prop where
  len : bs.length = rows.length
  ends : ∀ e ∈ ends, gb bs e = true
  clo : ∀ q : Int, 0 ≤ q → q < rows.length → ∀ t ∈ tg rows q, 0 ≤ t → gb bs t = true → gb bs q = true
/-- between two turns of the work: all reached states but those in ws (and x) are done -/
structure RI (rows : List (List Int)) (bs : List Bool) (ws : List Int) (x : Int) : Prop where
  len : bs.length = rows.length
  zero : gb bs 0 = true
  inn : ∀ s ∈ ws, 0 ≤ s ∧ s < rows.length
  clo : ∀ q : Int, 0 ≤ q → q < rows.length → gb bs q = true → q ∈ ws ∨ q = x ∨ ∀ t ∈ tg rows q, 0 ≤ t → gb bs t = true
theorem RI.done {rows : List (List Int)} {bs : List Bool} (h : RI rows bs [] (-1)) : Reach rows bs := ⟨h.len, h.zero, fun q h0 h1 hb => by
  rcases h.clo q h0 h1 hb with z | z | z
  · cases z
  · omega
  · exact z⟩
theorem RI.pop {rows : List (List Int)} {bs : List Bool} {ws : List Int} {s : Int} (h : RI rows bs (ws ++ [s]) (-1)) : RI rows bs ws s := ⟨h.len, h.zero, fun x hx => h.inn x (List.mem_append_left _ hx), fun q h0 h1 hb => by
  rcases h.clo q h0 h1 hb with z | z | z
  · rcases List.mem_append.mp z with z | z
    · exact .inl z
    · exact .inr (.inl (List.mem_singleton.mp z))
  · omega
  · exact .inr (.inr z)⟩
theorem RI.push {rows : List (List Int)} {bs : List Bool} {ws : List Int} {x t : Int} (h : RI rows bs ws x) (h0 : 0 ≤ t) (h1 : t < rows.length) : RI rows (bs.set t.toNat true) (ws ++ [t]) x :=
  ⟨by rw [List.length_set]; exact h.len, gb_mono _ _ _ h.zero, fun s hs => by
    rcases List.mem_append.mp hs with z | z
    · exact h.inn s z
    · rw [List.mem_singleton.mp z]; exact ⟨h0, h1⟩, fun q q0 q1 hb => by
    rw [gb_set] at hb
    rcases Bool.or_eq_true_iff.mp hb with hb | hb
    · rcases h.clo q q0 q1 hb with z | z | z
      · exact .inl (List.mem_append_left _ z)
      · exact .inr (.inl z)
      · exact .inr (.inr fun u hu h0 => gb_mono _ _ _ (z u hu h0))
    · have := (of_decide_eq_true hb).1
      exact .inl (List.mem_append_right _ (List.mem_singleton.mpr (by omega)))⟩
theorem RI.close {rows : List (List Int)} {bs : List Bool} {ws : List Int} {x : Int} (h : RI rows bs ws x) (hx : ∀ t ∈ tg rows x, 0 ≤ t → gb bs t = true) : RI rows bs ws (-1) :=
  ⟨h.len, h.zero, h.inn, fun q h0 h1 hb => by
    rcases h.clo q h0 h1 hb with z | z | z
    · exact .inl z
    · rw [z]; exact .inr (.inr hx)
    · exact .inr (.inr z)⟩
structure LI (rows : List (List Int)) (ends : List Int) (bs : List Bool) (ws : List Int) (x : Int) : Prop where
  len : bs.length = rows.length
  ends : ∀ e ∈ ends, gb bs e = true
  inn : ∀ s ∈ ws, 0 ≤ s ∧ s < rows.length
  clo : ∀ q : Int, 0 ≤ q → q < rows.length → ∀ t ∈ tg rows q, 0 ≤ t → gb bs t = true → gb bs q = true ∨ t ∈ ws ∨ t = x
theorem LI.done {rows : List (List Int)} {ends : List Int} {bs : List Bool} (h : LI rows ends bs [] (-1)) : Live rows ends bs := ⟨h.len, h.ends, fun q h0 h1 t ht t0 hb => by
  rcases h.clo q h0 h1 t ht t0 hb with z | z | z
  · exact z
  · cases z
  · omega⟩
theorem LI.pop {rows : List (List Int)} {ends : List Int} {bs : List Bool} {ws : List Int} {s : Int} (h : LI rows ends bs (ws ++ [s]) (-1)) : LI rows ends bs ws s := ⟨h.len, h.ends, fun x hx => h.inn x (List.mem_append_left _ hx), fun q h0 h1 t ht t0 hb => by
  rcases h.clo q h0 h1 t ht t0 hb with z | z | z
  · exact .inl z
  · rcases List.mem_append.mp z with z | z
    · exact .inr (.inl z)
    · exact .inr (.inr (List.mem_singleton.mp z))
  · omega⟩
theorem LI.push {rows : List (List Int)} {ends : List Int} {bs : List Bool} {ws : List Int} {x t : Int} (h : LI rows ends bs ws x) (h0 : 0 ≤ t) (h1 : t < rows.length) : LI rows ends (bs.set t.toNat true) (ws ++ [t]) x :=
  ⟨by rw [List.length_set]; exact h.len, fun e he => gb_mono _ _ _ (h.ends e he), fun s hs => by
    rcases List.mem_append.mp hs with z | z
    · exact h.inn s z
    · rw [List.mem_singleton.mp z]; exact ⟨h0, h1⟩, fun q q0 q1 u hu u0 hb => by
    rw [gb_set] at hb
    rcases Bool.or_eq_true_iff.mp hb with hb | hb
    · rcases h.clo q q0 q1 u hu u0 hb with z | z | z
      · exact .inl (gb_mono _ _ _ z)
      · exact .inr (.inl (List.mem_append_left _ z))
      · exact .inr (.inr z)
    · have := (of_decide_eq_true hb).1
      exact .inr (.inl (List.mem_append_right _ (List.mem_singleton.mpr (by omega))))⟩
theorem LI.close {rows : List (List Int)} {ends : List Int} {bs : List Bool} {ws : List Int} {x : Int} (h : LI rows ends bs ws x) (hx : ∀ q : Int, 0 ≤ q → q < rows.length → x ∈ tg rows q → gb bs q = true) : LI rows ends bs ws (-1) :=
  ⟨h.len, h.ends, h.inn, fun q h0 h1 t ht t0 hb => by
    rcases h.clo q h0 h1 t ht t0 hb with z | z | z
    · exact .inl z
    · exact .inr (.inl z)
    · rw [z] at ht; exact .inl (hx q h0 h1 ht)⟩
/-- reached and living -/
def Useful (rows : List (List Int)) (ends : List Int) (us : List Bool) : Prop := us.length = rows.length ∧ ∃ rs ls, Reach rows rs ∧ Live rows ends ls ∧ ∀ q : Int, 0 ≤ q → q < rows.length → gb us q = (gb rs q && gb ls q)
theorem gb_range {n : Nat} (f : Nat → Bool) {q : Int} (h0 : 0 ≤ q) (h1 : q < n) : gb ((List.range n).map f) q = f q.toNat := by
  unfold gb
  exact getD_some (by rw [List.getElem?_map, List.getElem?_range (by omega)]; rfl)
theorem range_snoc {α : Type} (n : Nat) (f : Nat → α) : (List.range (n + 1)).map f = (List.range n).map f ++ [f n] := by rw [List.range_succ, List.map_append]; rfl

/-- the sources of each state, as far as the rows below s and the first j of row s show -/
structure Srcs (rows : List (List Int)) (ss : List (List Int)) (s : Nat) (j : Nat) : Prop where
  len : ss.length = rows.length
  inn : ∀ l ∈ ss, ∀ x ∈ l, 0 ≤ x ∧ x < rows.length
  few : ∀ l ∈ ss, l.length ≤ 4 * s + j
  has : ∀ (q i : Nat) (t : Int), (rows.getD q [])[i]? = some t → 0 ≤ t → (q < s ∨ (q = s ∧ i < j)) → (q : Int) ∈ ss.getD t.toNat []
theorem Srcs.zero (rows : List (List Int)) : Srcs rows (List.replicate rows.length []) 0 0 :=
  ⟨List.length_replicate, fun l hl x hx => (by rw [(List.mem_replicate.mp hl).2] at hx; cases hx), fun l hl => (by rw [(List.mem_replicate.mp hl).2]; exact Nat.zero_le _), fun q i t _ _ h => by omega⟩
theorem Srcs.row {rows ss : List (List Int)} {s : Nat} (h : Srcs rows ss s (rows.getD s []).length) (hl : (rows.getD s []).length ≤ 4) : Srcs rows ss (s + 1) 0 :=
  ⟨h.len, h.inn, fun l hl' => by have := h.few l hl'; omega, fun q i t e t0 z => h.has q i t e t0 (by
    rcases z with z | z
    · by_cases e' : q = s
      · subst e'
        exact .inr ⟨rfl, (List.getElem?_eq_some_iff.mp e).1⟩
      · exact .inl (by omega)
    · omega)⟩
theorem Srcs.skip {rows ss : List (List Int)} {s j : Nat} {t : Int} (h : Srcs rows ss s j) (e : (rows.getD s [])[j]? = some t) (t0 : ¬ 0 ≤ t) : Srcs rows ss s (j + 1) :=
  ⟨h.len, h.inn, fun l hl => by have := h.few l hl; omega, fun q i u eu u0 z => h.has q i u eu u0 (by
    rcases z with z | ⟨z, y⟩
    · exact .inl z
    · refine .inr ⟨z, ?_⟩
      by_cases ei : i = j
      · subst ei; subst z
        rw [e] at eu; cases eu
        exact absurd u0 t0
      · omega)⟩
theorem Srcs.add {rows ss : List (List Int)} {s j : Nat} {t : Int} (h : Srcs rows ss s j) (e : (rows.getD s [])[j]? = some t) (t0 : 0 ≤ t) (t1 : t < rows.length) (hs : s < rows.length) :
    Srcs rows (ss.set t.toNat (ss.getD t.toNat [] ++ [(s : Int)])) s (j + 1) := by
  have htl : t.toNat < ss.length := by rw [h.len]; omega
  have hmem : ss.getD t.toNat [] ∈ ss := by rw [getD_some (List.getElem?_eq_getElem htl)]; exact List.getElem_mem htl
  refine ⟨by rw [List.length_set]; exact h.len, fun l hl x hx => ?_, fun l hl => ?_, fun q i u eu u0 z => ?_⟩
  · rcases List.mem_or_eq_of_mem_set hl with z | z
    · exact h.inn l z x hx
    · rw [z] at hx
      rcases List.mem_append.mp hx with y | y
      · exact h.inn _ hmem x y
      · rw [List.mem_singleton.mp y]; omega
  · rcases List.mem_or_eq_of_mem_set hl with z | z
    · have := h.few l z; omega
    · rw [z, List.length_append, List.length_singleton]; have := h.few _ hmem; omega
  · have mono : ∀ x, x ∈ ss.getD u.toNat [] → x ∈ (ss.set t.toNat (ss.getD t.toNat [] ++ [(s : Int)])).getD u.toNat [] := fun x hx => by
      rw [List.getD_eq_getElem?_getD, List.getElem?_set]
      by_cases e' : t.toNat = u.toNat
      · rw [if_pos e', if_pos htl]
        show x ∈ ss.getD t.toNat [] ++ _
        rw [e']; exact List.mem_append_left _ hx
      · rw [if_neg e', ← List.getD_eq_getElem?_getD]; exact hx
    by_cases c : q = s ∧ i = j
    · obtain ⟨rfl, rfl⟩ := c
      rw [e] at eu; cases eu
      rw [List.getD_eq_getElem?_getD, List.getElem?_set, if_pos rfl, if_pos htl]
      exact List.mem_append_right _ (List.mem_singleton.mpr rfl)
    · exact mono _ (h.has q i u eu u0 (by
        rcases z with z | ⟨z, y⟩
        · exact .inl z
        · refine .inr ⟨z, ?_⟩
          have : ¬ i = j := fun w => c ⟨z, w⟩
          omega))
theorem All2.set {α β : Type} {R : α → β → Prop} : ∀ {as : List α} {bs : List β} {i : Nat} {b : β}, All2 R as bs → (∀ a, as[i]? = some a → R a b) → All2 R as (bs.set i b)
  | [], [], _, _, _, _ => trivial
  | a :: _, _ :: _, 0, _, h, r => ⟨r a rfl, h.2⟩
  | _ :: _, _ :: _, i + 1, _, h, r => ⟨h.1, All2.set h.2 (fun a e => r a (by simpa using e))⟩
  | [], _ :: _, _, _, h, _ => h.elim
  | _ :: _, [], _, _, h, _ => h.elim
theorem All2.imp_ix {α β : Type} {R S : α → β → Prop} : ∀ {as : List α} {bs : List β}, (∀ (i : Nat) (a : α) (b : β), as[i]? = some a → bs[i]? = some b → R a b → S a b) → All2 R as bs → All2 S as bs
  | [], [], _, _ => trivial
  | a :: _, b :: _, f, h => ⟨f 0 a b rfl rfl h.1, All2.imp_ix (fun i a' b' h1 h2 => f (i + 1) a' b' (by simpa using h1) (by simpa using h2)) h.2⟩
  | [], _ :: _, _, h => h.elim
  | _ :: _, [], _, h => h.elim
/-- lists that stand apart, one of them grown -/
theorem lists_upd {H : Hp} {s' : List Int} : ∀ {qs : List Addr} {ss : List (List Int)} {i : Nat} {q : Addr}, qs.Nodup → All2 (fun q s => H q = some (.lst (s.map V.int))) qs ss → qs[i]? = some q →
    All2 (fun p s => upd H q (.lst (s'.map V.int)) p = some (.lst (s.map V.int))) qs (ss.set i s')
  | [], [], _, _, _, _, h => by simp at h
  | p :: qs, s :: ss, 0, q, nd, h, e => by
    simp at e; subst e
    obtain ⟨n1, n2⟩ := List.nodup_cons.mp nd
    refine ⟨upd_same, All2.imp_mem (fun a b ha z => ?_) h.2⟩
    have ne : a ≠ p := fun y => n1 (by rw [← y]; exact ha)
    rw [upd_ne ne]; exact z
  | p :: qs, s :: ss, i + 1, q, nd, h, e => by
    obtain ⟨n1, n2⟩ := List.nodup_cons.mp nd
    have hq : qs[i]? = some q := by simpa using e
    refine ⟨?_, lists_upd n2 h.2 hq⟩
    have ne : p ≠ q := fun y => n1 (by rw [y]; exact List.mem_of_getElem? hq)
    show upd H q (.lst (s'.map V.int)) p = some (.lst (s.map V.int))
    rw [upd_ne ne]; exact h.1
  | [], _ :: _, _, _, _, h, _ => h.elim
  | _ :: _, [], _, _, _, h, _ => h.elim
end Fy

set_option Elab.async false
set_option linter.all false
set_option maxRecDepth 100000
set_option maxHeartbeats 4000000
namespace Fy
open PySem PySem.Spec PyProof.Rows L2
/-! ### counting -/
theorem cover_len : ∀ (n : Nat) (L : List Int), (∀ g : Nat, g < n → (g : Int) ∈ L) → n ≤ L.length
  | 0, _, _ => Nat.zero_le _
  | n + 1, L, h => by
    have hm := h n (Nat.lt_succ_self n)
    have := cover_len n (L.erase (n : Int)) (fun g hg => (List.mem_erase_of_ne (by omega)).mpr (h g (by omega)))
    rw [List.length_erase_of_mem hm] at this
    have := List.length_pos_of_mem hm
    omega
theorem cover_inj {n : Nat} {L : List Int} (hl : L.length = n) (h : ∀ g : Nat, g < n → (g : Int) ∈ L) {i j : Nat} {a : Int} (hi : L[i]? = some a) (hj : L[j]? = some a) : i = j := by
  apply Classical.byContradiction
  intro ne
  have hlt := (List.getElem?_eq_some_iff.mp hi).1
  have := cover_len n (L.eraseIdx i) (fun g hg => by
    obtain ⟨k, hk⟩ := List.getElem?_of_mem (h g hg)
    refine List.mem_eraseIdx_iff_getElem?.mpr ?_
    by_cases e : k = i
    · subst e
      rw [hi] at hk
      exact ⟨j, fun z => ne z.symm, by rw [hj]; exact hk⟩
    · exact ⟨k, e, hk⟩)
  rw [List.length_eraseIdx_of_lt hlt] at this
  omega
/-! ### groups -/
def keyOf (rows : List (List Int)) (gr : List Int) (q : Int) : NK := (gi gr q, (tg rows q).map fun t => if 0 ≤ t then gi gr t else -1)
structure GI (rows : List (List Int)) (ends : List Int) (us : List Bool) (gr : List Int) (cnt : Nat) : Prop where
  len : gr.length = rows.length
  neg : ∀ q : Int, 0 ≤ q → q < rows.length → (gb us q = false → gi gr q = -1) ∧ (gb us q = true → 0 ≤ gi gr q)
  ends : ∀ q q' : Int, 0 ≤ q → q < rows.length → 0 ≤ q' → q' < rows.length → gb us q = true → gb us q' = true → gi gr q = gi gr q' → (q ∈ ends ↔ q' ∈ ends)
  cov : cnt = 0 ∨ ∀ g : Nat, g < cnt → ∃ q : Int, 0 ≤ q ∧ q < rows.length ∧ gb us q = true ∧ gi gr q = g
  low : cnt = 0 ∨ ∀ q : Int, 0 ≤ q → q < rows.length → gb us q = true → gi gr q < cnt
/-- what a target counts as -/
def cls (us : List Bool) (sp : List Int) (t : Int) : Int := if 0 ≤ t ∧ gb us t = true then gi sp t else -1
/-- equal numbers: equal ends, equal targets -/
structure Stable (rows : List (List Int)) (ends : List Int) (us : List Bool) (sp : List Int) : Prop where
  len : sp.length = rows.length
  nn : ∀ q : Int, 0 ≤ q → q < rows.length → gb us q = true → 0 ≤ gi sp q
  ends : ∀ q q' : Int, 0 ≤ q → q < rows.length → 0 ≤ q' → q' < rows.length → gb us q = true → gb us q' = true → gi sp q = gi sp q' → (q ∈ ends ↔ q' ∈ ends)
  step : ∀ q q' : Int, 0 ≤ q → q < rows.length → 0 ≤ q' → q' < rows.length → gb us q = true → gb us q' = true → gi sp q = gi sp q' → (tg rows q).map (cls us sp) = (tg rows q').map (cls us sp)
/-- the keys met so far -/
structure SI (rows : List (List Int)) (us : List Bool) (gr : List Int) (i : Nat) (ks : List NK) (sp : List Int) : Prop where
  len : sp.length = i
  nd : ks.Nodup
  few : ks.length ≤ i
  yes : ∀ q : Nat, q < i → gb us q = true → ∃ j : Nat, ks[j]? = some (keyOf rows gr q) ∧ sp[q]? = some (j : Int)
  no : ∀ q : Nat, q < i → gb us q = false → sp[q]? = some (-1)
  from_ : ∀ (j : Nat) k, ks[j]? = some k → ∃ q : Nat, q < i ∧ gb us q = true ∧ k = keyOf rows gr q
theorem SI.zero (rows : List (List Int)) (us : List Bool) (gr : List Int) : SI rows us gr 0 [] [] := ⟨rfl, List.nodup_nil, Nat.le_refl _, fun q h => by omega, fun q h => by omega, fun j k h => by simp at h⟩
theorem SI.skip {rows : List (List Int)} {us : List Bool} {gr : List Int} {i : Nat} {ks : List NK} {sp : List Int} (h : SI rows us gr i ks sp) (hu : gb us i = false) : SI rows us gr (i + 1) ks (sp ++ [-1]) := by
  refine ⟨by rw [List.length_append, h.len]; rfl, h.nd, Nat.le_succ_of_le h.few, fun q hq hb => ?_, fun q hq hb => ?_, fun j k hk => let ⟨q, a, b⟩ := h.from_ j k hk; ⟨q, Nat.lt_succ_of_lt a, b⟩⟩
  · have hqi : q < i := by
      rcases Nat.lt_succ_iff_lt_or_eq.mp hq with z | z
      · exact z
      · subst z; rw [hb] at hu; cases hu
    obtain ⟨j, h1, h2⟩ := h.yes q hqi hb
    exact ⟨j, h1, by rw [List.getElem?_append_left (by rw [h.len]; exact hqi)]; exact h2⟩
  · rcases Nat.lt_succ_iff_lt_or_eq.mp hq with z | z
    · rw [List.getElem?_append_left (by rw [h.len]; exact z)]; exact h.no q z hb
    · subst z; rw [List.getElem?_append_right (by rw [h.len]; exact Nat.le_refl _), h.len, Nat.sub_self]; rfl
theorem snoc_last {α : Type} {l : List α} {i : Nat} {a : α} (h : l.length = i) : (l ++ [a])[i]? = some a := by
  rw [List.getElem?_append_right (by omega), h, Nat.sub_self]; rfl
theorem SI.old {rows : List (List Int)} {us : List Bool} {gr : List Int} {i : Nat} {ks : List NK} {sp : List Int} (h : SI rows us gr i ks sp) (hu : gb us i = true) {j : Nat} (hj : ks[j]? = some (keyOf rows gr i)) : SI rows us gr (i + 1) ks (sp ++ [(j : Int)]) := by
  refine ⟨by rw [List.length_append, h.len]; rfl, h.nd, Nat.le_succ_of_le h.few, fun q hq hb => ?_, fun q hq hb => ?_, fun j k hk => let ⟨q, a, b⟩ := h.from_ j k hk; ⟨q, Nat.lt_succ_of_lt a, b⟩⟩
  · rcases Nat.lt_succ_iff_lt_or_eq.mp hq with z | z
    · obtain ⟨j, h1, h2⟩ := h.yes q z hb
      exact ⟨j, h1, by rw [List.getElem?_append_left (by rw [h.len]; exact z)]; exact h2⟩
    · subst z; exact ⟨j, hj, snoc_last h.len⟩
  · rcases Nat.lt_succ_iff_lt_or_eq.mp hq with z | z
    · rw [List.getElem?_append_left (by rw [h.len]; exact z)]; exact h.no q z hb
    · subst z; rw [hb] at hu; cases hu
theorem SI.new {rows : List (List Int)} {us : List Bool} {gr : List Int} {i : Nat} {ks : List NK} {sp : List Int} (h : SI rows us gr i ks sp) (hu : gb us i = true) (hn : keyOf rows gr i ∉ ks) : SI rows us gr (i + 1) (ks ++ [keyOf rows gr i]) (sp ++ [(ks.length : Int)]) := by
  refine ⟨by rw [List.length_append, h.len]; rfl, ?_, by rw [List.length_append]; show ks.length + 1 ≤ i + 1; have := h.few; omega, fun q hq hb => ?_, fun q hq hb => ?_, fun j k hk => ?_⟩
  · refine List.nodup_append.mpr ⟨h.nd, List.nodup_cons.mpr ⟨List.not_mem_nil, List.nodup_nil⟩, fun a ha b hb => ?_⟩
    rw [List.mem_singleton.mp hb]
    intro z; rw [z] at ha; exact hn ha
  · rcases Nat.lt_succ_iff_lt_or_eq.mp hq with z | z
    · obtain ⟨j, h1, h2⟩ := h.yes q z hb
      exact ⟨j, by rw [List.getElem?_append_left (List.getElem?_eq_some_iff.mp h1).1]; exact h1, by rw [List.getElem?_append_left (by rw [h.len]; exact z)]; exact h2⟩
    · subst z; exact ⟨ks.length, snoc_last rfl, snoc_last h.len⟩
  · rcases Nat.lt_succ_iff_lt_or_eq.mp hq with z | z
    · rw [List.getElem?_append_left (by rw [h.len]; exact z)]; exact h.no q z hb
    · subst z; rw [hb] at hu; cases hu
  · by_cases z : j < ks.length
    · rw [List.getElem?_append_left z] at hk
      obtain ⟨q, a, b⟩ := h.from_ j k hk
      exact ⟨q, Nat.lt_succ_of_lt a, b⟩
    · have hjl := (List.getElem?_eq_some_iff.mp hk).1
      rw [List.length_append] at hjl
      have hj : j = ks.length := by have : j < ks.length + 1 := hjl; omega
      subst hj
      rw [snoc_last rfl] at hk
      cases hk
      exact ⟨i, Nat.lt_succ_self i, hu, rfl⟩
section
variable {rows : List (List Int)} {ends : List Int} {us : List Bool} {gr sp : List Int} {cnt : Nat} {ks : List NK}
theorem SI.gi_yes (h : SI rows us gr rows.length ks sp) {q : Int} (h0 : 0 ≤ q) (h1 : q < rows.length) (hu : gb us q = true) : ∃ j : Nat, ks[j]? = some (keyOf rows gr q) ∧ gi sp q = j := by
  have e : ((q.toNat : Nat) : Int) = q := by omega
  obtain ⟨j, a, b⟩ := h.yes q.toNat (by omega) (by rw [e]; exact hu)
  rw [e] at a
  exact ⟨j, a, by unfold gi; exact getD_some b⟩
theorem SI.gi_no (h : SI rows us gr rows.length ks sp) {q : Int} (h0 : 0 ≤ q) (h1 : q < rows.length) (hu : gb us q = false) : gi sp q = -1 := by
  have e : ((q.toNat : Nat) : Int) = q := by omega
  have := h.no q.toNat (by omega) (by rw [e]; exact hu)
  unfold gi; exact getD_some this
/-- equal numbers: equal keys -/
theorem SI.eqk (h : SI rows us gr rows.length ks sp) {q q' : Int} (h0 : 0 ≤ q) (h1 : q < rows.length) (h0' : 0 ≤ q') (h1' : q' < rows.length) (hu : gb us q = true) (hu' : gb us q' = true) : gi sp q = gi sp q' ↔ keyOf rows gr q = keyOf rows gr q' := by
  obtain ⟨j, a, b⟩ := h.gi_yes h0 h1 hu
  obtain ⟨j', a', b'⟩ := h.gi_yes h0' h1' hu'
  rw [b, b']
  constructor
  · intro e
    have : j = j' := by omega
    subst this
    rw [a] at a'
    exact Option.some.inj a'
  · intro e
    rw [e] at a
    obtain ⟨p1, q1⟩ := List.getElem?_eq_some_iff.mp a
    obtain ⟨p2, q2⟩ := List.getElem?_eq_some_iff.mp a'
    have := (List.getElem_inj h.nd).mp (q1.trans q2.symm)
    omega
/-- the next group -/
theorem SI.next (h : SI rows us gr rows.length ks sp) (g : GI rows ends us gr cnt) : GI rows ends us sp ks.length := by
  refine ⟨h.len, fun q h0 h1 => ⟨fun hu => h.gi_no h0 h1 hu, fun hu => ?_⟩, fun q q' h0 h1 h0' h1' hu hu' e => ?_, .inr fun j hj => ?_, .inr fun q h0 h1 hu => ?_⟩
  · obtain ⟨j, _, b⟩ := h.gi_yes h0 h1 hu
    omega
  · have k := (h.eqk h0 h1 h0' h1' hu hu').mp e
    exact g.ends q q' h0 h1 h0' h1' hu hu' (congrArg Prod.fst k)
  · obtain ⟨q, a, b, c⟩ := h.from_ j _ (List.getElem?_eq_getElem hj)
    refine ⟨q, by omega, by omega, b, ?_⟩
    obtain ⟨j', a', b'⟩ := h.gi_yes (q := q) (by omega) (by omega) b
    rw [b']
    have hj' := List.getElem?_eq_getElem hj
    rw [c] at hj'
    obtain ⟨p1, q1⟩ := List.getElem?_eq_some_iff.mp hj'
    obtain ⟨p2, q2⟩ := List.getElem?_eq_some_iff.mp a'
    have := (List.getElem_inj h.nd).mp (q1.trans q2.symm)
    omega
  · obtain ⟨j, a, b⟩ := h.gi_yes h0 h1 hu
    have := (List.getElem?_eq_some_iff.mp a).1
    omega
/-- there are at least as many keys as groups -/
theorem SI.more (h : SI rows us gr rows.length ks sp) (g : GI rows ends us gr cnt) : cnt ≤ ks.length := by
  rcases g.cov with z | z
  · omega
  · have := cover_len cnt (ks.map Prod.fst) (fun a ha => by
      obtain ⟨q, h0, h1, hu, e⟩ := z a ha
      obtain ⟨j, hj, _⟩ := h.gi_yes h0 h1 hu
      rw [← e]
      exact List.mem_map.mpr ⟨_, List.mem_of_getElem? hj, rfl⟩)
    rwa [List.length_map] at this
theorem SI.stable (h : SI rows us gr rows.length ks sp) (g : GI rows ends us gr cnt) (ok : ROk rows) (he : ks.length = cnt) : Stable rows ends us sp := by
  have same : ∀ q q' : Int, 0 ≤ q → q < rows.length → 0 ≤ q' → q' < rows.length → gb us q = true → gb us q' = true → gi gr q = gi gr q' → gi sp q = gi sp q' := fun q q' h0 h1 h0' h1' hu hu' e => by
    obtain ⟨j, a, b⟩ := h.gi_yes h0 h1 hu
    obtain ⟨j', a', b'⟩ := h.gi_yes h0' h1' hu'
    rcases g.cov with z | z
    · have := (List.getElem?_eq_some_iff.mp a).1
      omega
    · have hc : ∀ x : Nat, x < cnt → (x : Int) ∈ ks.map Prod.fst := fun x hx => by
        obtain ⟨q, h0, h1, hu, e⟩ := z x hx
        obtain ⟨j, hj, _⟩ := h.gi_yes h0 h1 hu
        rw [← e]
        exact List.mem_map.mpr ⟨_, List.mem_of_getElem? hj, rfl⟩
      have hj : (ks.map Prod.fst)[j]? = some (gi gr q) := by rw [List.getElem?_map, a]; rfl
      have hj' : (ks.map Prod.fst)[j']? = some (gi gr q) := by rw [List.getElem?_map, a', e]; rfl
      have := cover_inj (by rw [List.length_map]; exact he) hc hj hj'
      rw [b, b', this]
  refine ⟨h.len, fun q h0 h1 hu => ?_, fun q q' h0 h1 h0' h1' hu hu' e => ?_, fun q q' h0 h1 h0' h1' hu hu' e => ?_⟩
  · obtain ⟨j, _, b⟩ := h.gi_yes h0 h1 hu
    omega
  · have k := (h.eqk h0 h1 h0' h1' hu hu').mp e
    exact g.ends q q' h0 h1 h0' h1' hu hu' (congrArg Prod.fst k)
  · have k := congrArg Prod.snd ((h.eqk h0 h1 h0' h1' hu hu').mp e)
    have k' : (tg rows q).map (fun t => if 0 ≤ t then gi gr t else -1) = (tg rows q').map (fun t => if 0 ≤ t then gi gr t else -1) := k
    have hin : ∀ q : Int, 0 ≤ q → q < rows.length → ∀ t ∈ tg rows q, t < rows.length := fun q h0 h1 t ht => (ok.inn _ (tg_mem (rows := rows) (q := q) (by omega)) t ht).2
    have a1 := hin q h0 h1
    have a2 := hin q' h0' h1'
    generalize tg rows q = l at k' a1
    generalize tg rows q' = l' at k' a2
    have go : ∀ (l l' : List Int), (∀ t ∈ l, t < rows.length) → (∀ t ∈ l', t < rows.length) → l.map (fun t => if 0 ≤ t then gi gr t else -1) = l'.map (fun t => if 0 ≤ t then gi gr t else -1) → l.map (cls us sp) = l'.map (cls us sp) := by
      intro l
      induction l with
      | nil => intro l' _ _ e; cases l' with
        | nil => rfl
        | cons a as => simp at e
      | cons t l ih =>
        intro l' ha hb e
        cases l' with
        | nil => simp at e
        | cons t' l' =>
          rw [List.map_cons, List.map_cons] at e ⊢
          obtain ⟨e1, e2⟩ := List.cons.inj e
          have r1 := ih l' (fun x hx => ha x (List.mem_cons_of_mem _ hx)) (fun x hx => hb x (List.mem_cons_of_mem _ hx)) e2
          have h1 := ha t List.mem_cons_self
          have h2 := hb t' List.mem_cons_self
          have r2 : cls us sp t = cls us sp t' := by
            have val : ∀ t : Int, t < rows.length → (if 0 ≤ t then gi gr t else -1) = if 0 ≤ t ∧ gb us t = true then gi gr t else -1 := fun t ht => by
              by_cases c : 0 ≤ t
              · rw [if_pos c]
                by_cases d : gb us t = true
                · rw [if_pos ⟨c, d⟩]
                · rw [if_neg (fun z => d z.2)]
                  exact (g.neg t c ht).1 (by simpa using d)
              · rw [if_neg c, if_neg (fun z => c z.1)]
            rw [val t h1, val t' h2] at e1
            unfold cls
            by_cases c : 0 ≤ t ∧ gb us t = true
            · have p1 := (g.neg t c.1 h1).2 c.2
              by_cases c' : 0 ≤ t' ∧ gb us t' = true
              · rw [if_pos c, if_pos c'] at e1
                rw [if_pos c, if_pos c']
                exact same t t' c.1 h1 c'.1 h2 c.2 c'.2 e1
              · rw [if_pos c, if_neg c'] at e1; omega
            · by_cases c' : 0 ≤ t' ∧ gb us t' = true
              · have p1 := (g.neg t' c'.1 h2).2 c'.2
                rw [if_neg c, if_pos c'] at e1; omega
              · rw [if_neg c, if_neg c']
          rw [r1, r2]
    exact go l l' a1 a2 k'
end
end Fy

set_option Elab.async false
set_option linter.all false
set_option maxRecDepth 100000
set_option maxHeartbeats 4000000
namespace Fy
open PySem PySem.Spec PyProof.Rows L2
/-! ### such dicts, kept -/
section
variable {P : Program} {w : World} {H : Hp}
theorem NKAt.upd {q b : Addr} {k : NK} {o : HO} (h : NKAt H q k) (n : ∀ ys, H b ≠ some (.tup ys)) : NKAt (upd H b o) q k := by
  obtain ⟨r, h1, h2⟩ := h
  have e1 : q ≠ b := by rintro rfl; exact n _ h1
  have e2 : r ≠ b := by rintro rfl; exact n _ h2
  exact ⟨r, by rw [upd_ne e1]; exact h1, by rw [upd_ne e2]; exact h2⟩
theorem NDict.upd {a b : Addr} {xs : List NE} {o : HO} (h : NDict P w H a xs) (e : a ≠ b) (n : ∀ ys, H b ≠ some (.tup ys)) : NDict P w (upd H b o) a xs :=
  ⟨by rw [upd_ne e]; exact h.1, fun x hx => (h.2 x hx).upd n⟩
theorem NDict.laid {a b : Addr} {xs : List NE} {o : HO} (h : NDict P w H a xs) (n : H b = none) : NDict P w (L2.upd H b o) a xs :=
  h.upd (ne_of_none h.1 n) (fun ys z => by rw [n] at z; cases z)
theorem NDict.snoc {a q : Addr} {xs : List NE} {k : NK} {v : V} (h : NDict P w H a xs) (hk : NKAt H q k) : NDict P w (L2.upd H a (NDo P w a (xs ++ [(k, q, v)]))) a (xs ++ [(k, q, v)]) := by
  have n : ∀ ys, H a ≠ some (.tup ys) := fun ys z => by rw [h.1] at z; cases z
  refine ⟨upd_same, fun x hx => ?_⟩
  rcases List.mem_append.mp hx with hx | hx
  · exact (h.2 x hx).upd n
  · rw [List.mem_singleton.mp hx]; exact hk.upd n
end
section
variable {X : Cx} {P : Program} {w : World}
theorem pe_ndNewP {pos : Pos} (hP : X.prog = P) (hw : X.w = w) : PE X (.Dict [] [] pos) (tNdNew P w) := by subst hP hw; exact pe_ndNew
theorem pe_ndSetP {o e f : Expr} {apos cpos : Pos} {td tk tv : TE} (hP : X.prog = P) (hw : X.w = w) (hu : X.A.units + 9 < cLine) (ho : PE X o td) (he : PE X e tk) (hf : PE X f tv) (m : M2 X o "setdefault" apos e f cpos) :
    PE X (.Call (.Attribute o "setdefault" apos) [e, f] [] cpos) (tNdSet P w td tk tv) := by subst hP hw; exact pe_ndSet hu ho he hf m
end
/-- a comprehension over enumerate of a list or tuple -/
theorem lc_enumQ {K : PySem.W.Frag} {a : Addr} {xs : List V} {ia iy : Nat} {tt : TT} {te : TE} {vs : List Nat} {σ : L2.St} {H : Hp} {Qd : Addr → Hp → Prop} (hq : Sq H a xs) (Pv : Addr → Nat → Hp → Prop) (h0 : ∀ D, H D = none → Pv D 0 (upd H D (.lst []))) (hl : ∀ D i H', i ≤ xs.length → Pv D i H' → ∀ o, H a = some o → H' a = some o)
    (hs : ∀ D i x H' H2, H D = none → xs[i]? = some x → Pv D i H' → Same H' H2 → wipe (((wipe σ vs).set ia (some (.int (i : Nat)))).set iy (some x)) vs = wipe σ vs ∧ tt (((wipe σ vs).set ia (some (.int (i : Nat)))).set iy (some x)) H2 fun b H3 =>
      if b = true then te (((wipe σ vs).set ia (some (.int (i : Nat)))).set iy (some x)) H3 fun y H4 => ∃ acc, H4 D = some (.lst acc) ∧ acc.length < sizeLine ∧ Pv D (i + 1) (upd H4 D (.lst (acc ++ [y]))) else Pv D (i + 1) H3) (hd : ∀ D H', H D = none → Pv D xs.length H' → Qd D H') :
    ∃ a' xs', [V.ref a] = [.ref a'] ∧ Sq H a' xs' ∧ (H a' = some (.lst xs') → ∀ D, H D = none → LcW (gTup K 2 (gCons (gName ia) (gCons (gName iy) gNil))) tt te vs σ H D (Qd D) (Ite K a')) ∧
      (H a' = some (.tup xs') → ∀ D, H D = none → LcW (gTup K 2 (gCons (gName ia) (gCons (gName iy) gNil))) tt te vs σ H D (Qd D) (ItE (fun H => SqT K H a' xs') xs'.length (fun i => xs'[i]?))) := by
  have go : ∀ {J : It} {G : Hp → Prop}, Walk J xs.length G (YPair (fun i => some (.int (i : Nat))) (fun i => xs[i]?)) → (∀ D i H', i ≤ xs.length → Pv D i H' → G H') → ∀ D, H D = none → LcW (gTup K 2 (gCons (gName ia) (gCons (gName iy) gNil))) tt te vs σ H D (Qd D) J := fun wk hG D hD =>
    lc_it wk (Pv D) (h0 D hD) (hG D) (fun i v H' H2 hi p y => by
      obtain ⟨T, x, z, rfl, hT, rfl, h1, h2⟩ := y
      cases h1
      exact ⟨T, _, rfl, .of upd_same, rfl, _, _, rfl, _, _, rfl, rfl, hs D i z H' _ hD h2 p (sm_new hT)⟩) (fun H' => hd D H' hD)
  exact ⟨a, xs, rfl, hq, fun h => go walk_enum (fun D i H' hi p => .of (hl D i H' hi p _ h)), fun h => go walk_E (fun D i H' hi p => .of (hl D i H' hi p _ h))⟩
theorem gi_set (gr : List Int) (k : Nat) (v q : Int) : gi (gr.set k v) q = if q.toNat = k ∧ k < gr.length then v else gi gr q := by
  unfold gi
  rw [List.getD_eq_getElem?_getD, List.getD_eq_getElem?_getD, List.getElem?_set]
  by_cases e : k = q.toNat
  · subst e
    by_cases h : q.toNat < gr.length
    · simp [h]
    · simp [h]
  · have e' : ¬ q.toNat = k := fun z => e z.symm
    simp [e, e']
theorem gi_rep (n : Nat) (v q : Int) (h0 : 0 ≤ q) (h1 : q < n) : gi (List.replicate n v) q = v := by
  unfold gi
  exact getD_some (by rw [List.getElem?_replicate, if_pos (by omega)])
theorem mem_take_succ {ends : List Int} {i : Nat} {e : Int} (h : ends[i]? = some e) (q : Int) : q ∈ ends.take (i + 1) ↔ q ∈ ends.take i ∨ q = e := by
  rw [List.take_add_one, h, List.mem_append]
  simp
/-- the first group: -1, 0, 1 -/
theorem GI.first {rows : List (List Int)} {ends gr : List Int} {us : List Bool} (hl : gr.length = rows.length) (h : ∀ q : Int, 0 ≤ q → q < rows.length → gi gr q = if gb us q = true then (if q ∈ ends then 1 else 0) else -1) : GI rows ends us gr 0 := by
  refine ⟨hl, fun q h0 h1 => ⟨fun hu => ?_, fun hu => ?_⟩, fun q q' h0 h1 h0' h1' hu hu' e => ?_, .inl rfl, .inl rfl⟩
  · rw [h q h0 h1, if_neg (by rw [hu]; decide)]
  · rw [h q h0 h1, if_pos hu]; split <;> decide
  · rw [h q h0 h1, h q' h0' h1', if_pos hu, if_pos hu'] at e
    by_cases c : q ∈ ends
    · by_cases c' : q' ∈ ends
      · exact ⟨fun _ => c', fun _ => c⟩
      · rw [if_pos c, if_neg c'] at e; exact absurd e (by decide)
    · by_cases c' : q' ∈ ends
      · rw [if_neg c, if_pos c'] at e; exact absurd e (by decide)
      · exact ⟨fun z => absurd z c, fun z => absurd z c'⟩
/-- entry j of the dict holds j -/
def Cnt (xs : List NE) : Prop := ∀ j x, xs[j]? = some x → x.2.2 = V.int (j : Nat)
theorem Cnt.snoc {xs : List NE} (h : Cnt xs) (k : NK) (q : Addr) : Cnt (xs ++ [(k, q, V.int (xs.length : Int))]) := fun j x e => by
  by_cases z : j < xs.length
  · rw [List.getElem?_append_left z] at e; exact h j x e
  · have hj := (List.getElem?_eq_some_iff.mp e).1
    rw [List.length_append, List.length_singleton] at hj
    have : j = xs.length := by omega
    subst this
    rw [snoc_last rfl] at e; cases e; rfl
theorem find_at {xs : List NE} {k : NK} {x : NE} (h : xs.find? (fun x => decide (x.1 = k)) = some x) : ∃ j : Nat, xs[j]? = some x ∧ (xs.map (·.1))[j]? = some k := by
  have hm := List.mem_of_find?_eq_some h
  have hp := List.find?_some h
  have e : x.1 = k := of_decide_eq_true hp
  obtain ⟨j, hj⟩ := List.getElem?_of_mem hm
  exact ⟨j, hj, by rw [List.getElem?_map, hj]; exact congrArg some e⟩
theorem find_no {xs : List NE} {k : NK} (h : xs.find? (fun x => decide (x.1 = k)) = none) : k ∉ xs.map (·.1) := fun z => by
  obtain ⟨x, hx, e⟩ := List.mem_map.mp z
  have := List.find?_eq_none.mp h x hx
  simp [e] at this
end Fy

set_option Elab.async false
set_option linter.all false
set_option maxRecDepth 100000
set_option maxHeartbeats 4000000
namespace Fy
open PySem PySem.Spec PyProof.Rows L2
theorem nodup_few : ∀ (n : Nat) (L : List Int), L.Nodup → (∀ x ∈ L, 0 ≤ x ∧ x < n) → L.length ≤ n
  | 0, L, _, h => by
    cases L with
    | nil => exact Nat.le_refl _
    | cons a l => have := h a List.mem_cons_self; omega
  | n + 1, L, nd, h => by
    have ih := nodup_few n (L.erase (n : Int)) (nd.erase _) (fun x hx => by
      have h1 := (List.Nodup.mem_erase_iff nd).mp hx
      have := h x h1.2
      have := h1.1
      omega)
    have : L.length ≤ (L.erase (n : Int)).length + 1 := by
      rw [List.length_erase]; split <;> omega
    omega
/-! ### members and rows of the smallest machine -/
/-- row r stands for the targets ts -/
def RowR (us : List Bool) (sp ms : List Int) : List Int → List Int → Prop := All2 fun t x =>
  (0 ≤ t ∧ gb us t = true ∧ 0 ≤ x ∧ ∃ m, ms[x.toNat]? = some m ∧ gi sp m = gi sp t) ∨ (¬ (0 ≤ t ∧ gb us t = true) ∧ x = -1)
theorem get_app {α : Type} {l : List α} {i : Nat} {a : α} (h : l[i]? = some a) (m : List α) : (l ++ m)[i]? = some a := by
  rw [List.getElem?_append_left (List.getElem?_eq_some_iff.mp h).1]; exact h
theorem RowR.mono {us : List Bool} {sp ms : List Int} {ts r : List Int} (h : RowR us sp ms ts r) (m : Int) : RowR us sp (ms ++ [m]) ts r :=
  All2.imp (fun t x z => z.elim (fun ⟨a, b, c, q, d, e⟩ => .inl ⟨a, b, c, q, get_app d _, e⟩) .inr) h
structure MI (rows : List (List Int)) (us : List Bool) (sp ms : List Int) : Prop where
  zero : ms[0]? = some 0
  inn : ∀ q ∈ ms, 0 ≤ q ∧ q < rows.length ∧ gb us q = true
  nd : (ms.map (gi sp)).Nodup
/-- the rows done so far -/
def RD (rows : List (List Int)) (us : List Bool) (sp ms : List Int) (rs : List (List Int)) : Prop := ∀ (i : Nat) r, rs[i]? = some r → ∃ q, ms[i]? = some q ∧ RowR us sp ms (tg rows q) r
theorem RD.mono {rows : List (List Int)} {us : List Bool} {sp ms : List Int} {rs : List (List Int)} (h : RD rows us sp ms rs) (m : Int) : RD rows us sp (ms ++ [m]) rs := fun i r e =>
  let ⟨q, a, b⟩ := h i r e; ⟨q, get_app a _, b.mono m⟩
theorem RD.snoc {rows : List (List Int)} {us : List Bool} {sp ms : List Int} {rs : List (List Int)} {r : List Int} {q : Int} (h : RD rows us sp ms rs) (hq : ms[rs.length]? = some q) (hr : RowR us sp ms (tg rows q) r) : RD rows us sp ms (rs ++ [r]) := fun i r' e => by
  by_cases z : i < rs.length
  · rw [List.getElem?_append_left z] at e; exact h i r' e
  · have hj := (List.getElem?_eq_some_iff.mp e).1
    rw [List.length_append, List.length_singleton] at hj
    have : i = rs.length := by omega
    subst this
    rw [snoc_last rfl] at e; cases e
    exact ⟨q, hq, hr⟩
theorem MI.few {rows : List (List Int)} {us : List Bool} {sp ms : List Int} (h : MI rows us sp ms) : ms.length ≤ rows.length :=
  nodup_few rows.length ms (List.Pairwise.of_map (gi sp) (fun a b z y => z (by rw [y])) h.nd) (fun x hx => ⟨(h.inn x hx).1, (h.inn x hx).2.1⟩)
theorem MI.push {rows : List (List Int)} {us : List Bool} {sp ms : List Int} {t : Int} (h : MI rows us sp ms) (t0 : 0 ≤ t) (t1 : t < rows.length) (tu : gb us t = true) (hn : ∀ m ∈ ms, gi sp m ≠ gi sp t) : MI rows us sp (ms ++ [t]) := by
  refine ⟨get_app h.zero _, fun q hq => ?_, ?_⟩
  · rcases List.mem_append.mp hq with z | z
    · exact h.inn q z
    · rw [List.mem_singleton.mp z]; exact ⟨t0, t1, tu⟩
  · rw [List.map_append]
    refine List.nodup_append.mpr ⟨h.nd, List.nodup_cons.mpr ⟨List.not_mem_nil, List.nodup_nil⟩, fun a ha b hb => ?_⟩
    obtain ⟨m, hm, rfl⟩ := List.mem_map.mp ha
    rw [List.mem_singleton.mp hb]
    exact hn m hm
/-- the numbers of the groups -/
def NumD (kvs : List (Key × V)) (sp ms : List Int) : Prop := kvs.length ≤ ms.length ∧ ∀ g : Int, (∀ v, valV kvs (.inl g) = some v → ∃ (j : Nat) (m : Int), ms[j]? = some m ∧ gi sp m = g ∧ v = V.int (j : Nat)) ∧ (valV kvs (.inl g) = none → ∀ m ∈ ms, gi sp m ≠ g)
theorem NumD.one (sp : List Int) : NumD (mergeK [] [(.inl (gi sp 0), V.int 0)]) sp [0] := by
  refine ⟨Nat.le_refl _, fun g => ?_⟩
  have e : valV (mergeK [] [((.inl (gi sp 0) : Key), V.int 0)]) (Sum.inl g) = if (Sum.inl g : Key) = Sum.inl (gi sp 0) then some (V.int 0) else none := by
    show valV (putK ([] : List (Key × V)) (Sum.inl (gi sp 0)) (V.int 0)) (Sum.inl g) = _
    rw [valV_put]; rfl
  rw [e]
  by_cases c : g = gi sp 0
  · rw [if_pos (by rw [c])]
    exact ⟨fun v hv => ⟨0, 0, rfl, c.symm, (Option.some.inj hv).symm⟩, fun z => by cases z⟩
  · rw [if_neg (fun z => c (Sum.inl.inj z))]
    exact ⟨fun v hv => (by cases hv), fun _ m hm z => c (by rw [List.mem_singleton.mp hm] at z; exact z.symm)⟩
theorem NumD.push {kvs : List (Key × V)} {sp ms : List Int} {t : Int} (h : NumD kvs sp ms) (hn : ∀ m ∈ ms, gi sp m ≠ gi sp t) : NumD (putK kvs (.inl (gi sp t)) (V.int (ms.length : Int))) sp (ms ++ [t]) := by
  refine ⟨?_, fun g => ?_⟩
  · have := length_putK kvs (.inl (gi sp t)) (V.int (ms.length : Int))
    have := h.1
    rw [List.length_append, List.length_singleton]; omega
  · rw [valV_put]
    by_cases c : g = gi sp t
    · rw [if_pos (by rw [c])]
      exact ⟨fun v hv => ⟨ms.length, t, snoc_last rfl, c.symm, (Option.some.inj hv).symm⟩, fun z => by cases z⟩
    · rw [if_neg (fun z => c (Sum.inl.inj z))]
      refine ⟨fun v hv => ?_, fun hv m hm => ?_⟩
      · obtain ⟨j, m, a, b⟩ := (h.2 g).1 v hv
        exact ⟨j, m, get_app a _, b⟩
      · rcases List.mem_append.mp hm with z | z
        · exact (h.2 g).2 hv m z
        · rw [List.mem_singleton.mp z]; exact fun y => c y.symm
/-- the members that are ends -/
def fends (ends ms : List Int) (k : Nat) : List Int := ((List.range k).filter fun j : Nat => decide (ms.getD j 0 ∈ ends)).map fun j : Nat => (j : Int)
theorem fends_mem {ends ms : List Int} {k : Nat} {i : Int} : i ∈ fends ends ms k ↔ 0 ≤ i ∧ i < k ∧ ms.getD i.toNat 0 ∈ ends := by
  unfold fends
  rw [List.mem_map]
  constructor
  · rintro ⟨j, hj, rfl⟩
    rw [List.mem_filter, List.mem_range] at hj
    refine ⟨by omega, by omega, ?_⟩
    simpa using hj.2
  · rintro ⟨h0, h1, h2⟩
    refine ⟨i.toNat, ?_, by omega⟩
    rw [List.mem_filter, List.mem_range]
    exact ⟨by omega, by simpa using h2⟩
theorem fends_asc (ends ms : List Int) (k : Nat) : (fends ends ms k).Pairwise (· < ·) := by
  unfold fends
  rw [List.pairwise_map]
  refine List.Pairwise.filter _ ?_
  exact (List.pairwise_lt_range (n := k)).imp fun h => by omega
theorem fends_succ (ends ms : List Int) (k : Nat) : fends ends ms (k + 1) = fends ends ms k ++ if ms.getD k 0 ∈ ends then [(k : Int)] else [] := by
  unfold fends
  rw [List.range_succ, List.filter_append, List.map_append]
  by_cases c : ms.getD k 0 ∈ ends
  · rw [if_pos c, List.filter_cons, if_pos (decide_eq_true c)]; rfl
  · rw [if_neg c, List.filter_cons, if_neg (by simpa using c)]; rfl
/-! ### the smallest machine tells the same words -/
section
variable {n : Nat} {rows rs : List (List Int)} {ends ms sp : List Int} {us : List Bool}
theorem All2.get' {α β : Type} {R : α → β → Prop} : ∀ {as : List α} {bs : List β} {i : Nat} {a : α}, All2 R as bs → as[i]? = some a → ∃ b, bs[i]? = some b ∧ R a b
  | [], [], i, b, _, e => by simp at e
  | a :: _, b :: _, 0, _, h, e => by simp at e; subst e; exact ⟨b, rfl, h.1⟩
  | _ :: _, _ :: _, i + 1, b, h, e => by
    obtain ⟨a, h1, h2⟩ := All2.get' (i := i) h.2 (by simpa using e)
    exact ⟨a, by simpa using h1, h2⟩
  | [], _ :: _, _, _, h, _ => h.elim
  | _ :: _, [], _, _, h, _ => h.elim
theorem stp_neg (rows : List (List Int)) (p : Nat) : stp rows (-1) p = -1 := by unfold stp; rw [if_pos (by decide)]
theorem stp_tg {q : Int} (h0 : 0 ≤ q) (p : Nat) : stp rows q p = (tg rows q).getD p 0 := by unfold stp tg; rw [if_neg (by omega)]
theorem MOk.at (ok : MOk n rows ends) {q : Int} (h0 : 0 ≤ q) (h1 : q < rows.length) {p : Nat} (hp : p < n) : ∃ t, (tg rows q)[p]? = some t ∧ stp rows q p = t ∧ -1 ≤ t ∧ t < rows.length := by
  have hm := tg_mem (rows := rows) (q := q) (by omega)
  obtain ⟨w1, w2⟩ := ok.wide _ hm
  have hl : p < (tg rows q).length := by omega
  refine ⟨_, List.getElem?_eq_getElem hl, ?_, w2 _ (List.getElem_mem hl)⟩
  rw [stp_tg h0]
  exact getD_some (List.getElem?_eq_getElem hl)
/-- q is out of the game -/
def Dead (rows : List (List Int)) (ends : List Int) (q : Int) : Prop := ∀ ps : List Nat, run1 rows q ps ∉ ends
theorem dead_of (ok : MOk n rows ends) (hu : Useful rows ends us) {q : Int} (h1 : q < rows.length) (hr : ∀ rs ls, Reach rows rs → Live rows ends ls → (∀ q : Int, 0 ≤ q → q < rows.length → gb us q = (gb rs q && gb ls q)) → 0 ≤ q → gb rs q = true ∧ gb ls q = false) :
    ∀ ps : List Nat, (∀ p ∈ ps, p < n) → run1 rows q ps ∉ ends := by
  obtain ⟨_, rs, ls, hR, hL, hB⟩ := hu
  have key : ∀ (ps : List Nat) (q : Int), -1 ≤ q ∨ True → q < rows.length → (0 ≤ q → gb ls q = false) → (∀ p ∈ ps, p < n) → run1 rows q ps ∉ ends := by
    intro ps
    induction ps with
    | nil =>
      intro q _ h1 hd _ hm
      have hm' : q ∈ ends := hm
      have := hL.ends q hm'
      rw [hd (ok.inn q hm').1] at this
      cases this
    | cons p ps ih =>
      intro q _ h1 hd hp
      show run1 rows (stp rows q p) ps ∉ ends
      have hpp := hp p List.mem_cons_self
      by_cases h0 : 0 ≤ q
      · obtain ⟨t, ht, e, t0, t1⟩ := ok.at h0 h1 hpp
        rw [e]
        refine ih t (.inr trivial) t1 (fun z => ?_) (fun x hx => hp x (List.mem_cons_of_mem _ hx))
        cases c : gb ls t with
        | false => rfl
        | true =>
          have := hL.clo q h0 h1 t (List.mem_of_getElem? ht) z c
          rw [hd h0] at this; cases this
      · have e : stp rows q p = -1 := by unfold stp; rw [if_pos (by omega)]
        rw [e]
        have := ok.pos
        exact ih (-1) (.inr trivial) (by omega) (fun z => by omega) (fun x hx => hp x (List.mem_cons_of_mem _ hx))
  intro ps hp
  exact key ps q (.inr trivial) h1 (fun h0 => (hr rs ls hR hL hB h0).2) hp
theorem acc_nothing (k : Nat) (ps : List Nat) : acc [List.replicate k (-1)] [] ps = false := by unfold acc; simp
theorem acc_dead (ok : MOk n rows ends) (hu : Useful rows ends us) (h0 : gb us 0 = false) (ps : List Nat) (hp : ∀ p ∈ ps, p < n) : acc rows ends ps = false := by
  unfold acc
  refine decide_eq_false (dead_of ok hu (by have := ok.pos; omega) (fun rs ls hR hL hB _ => ⟨hR.zero, ?_⟩) ps hp)
  have := hB 0 (by decide) (by have := ok.pos; omega)
  rw [h0, hR.zero, Bool.true_and] at this
  exact this.symm
theorem map_get {α β : Type} {f : α → β} {l l' : List α} (h : l.map f = l'.map f) {i : Nat} {a : α} (e : l[i]? = some a) : ∃ b, l'[i]? = some b ∧ f a = f b := by
  have h1 : (l.map f)[i]? = some (f a) := by rw [List.getElem?_map, e]; rfl
  rw [h, List.getElem?_map] at h1
  cases c : l'[i]? with
  | none => rw [c] at h1; cases h1
  | some b => rw [c] at h1; exact ⟨b, rfl, (Option.some.inj h1).symm⟩
theorem acc_small (ok : MOk n rows ends) (hu : Useful rows ends us) (st : Stable rows ends us sp) (mi : MI rows us sp ms) (rd : RD rows us sp ms rs) (hl : rs.length = ms.length) (u0 : gb us 0 = true) :
    ∀ ps : List Nat, (∀ p ∈ ps, p < n) → acc rs (fends ends ms ms.length) ps = acc rows ends ps := by
  have hu' := hu
  obtain ⟨_, rc, lv, hR, hL, hB⟩ := hu
  have key : ∀ (ps : List Nat) (q i : Int), (∀ p ∈ ps, p < n) → q < rows.length → (0 ≤ q → gb rc q = true) →
      ((0 ≤ i ∧ 0 ≤ q ∧ gb us q = true ∧ ∃ m, ms[i.toNat]? = some m ∧ gi sp m = gi sp q) ∨ (i = -1 ∧ ¬ (0 ≤ q ∧ gb us q = true))) → (run1 rs i ps ∈ fends ends ms ms.length ↔ run1 rows q ps ∈ ends) := by
    intro ps
    induction ps with
    | nil =>
      intro q i _ h1 hr h
      show i ∈ _ ↔ q ∈ ends
      rcases h with ⟨i0, q0, qu, m, hm, e⟩ | ⟨rfl, hd⟩
      · have mm := mi.inn m (List.mem_of_getElem? hm)
        have hil := (List.getElem?_eq_some_iff.mp hm).1
        rw [fends_mem, getD_some hm]
        have := st.ends m q mm.1 mm.2.1 q0 h1 mm.2.2 qu e
        exact ⟨fun z => this.mp z.2.2, fun z => ⟨i0, by omega, this.mpr z⟩⟩
      · refine ⟨fun z => absurd (fends_mem.mp z).1 (by decide), fun z => (hd ?_).elim⟩
        have zi := ok.inn q z
        refine ⟨zi.1, ?_⟩
        rw [hB q zi.1 zi.2, hr zi.1, hL.ends q z]; rfl
    | cons p ps ih =>
      intro q i hp h1 hr h
      show run1 rs (stp rs i p) ps ∈ _ ↔ run1 rows (stp rows q p) ps ∈ ends
      have hpp := hp p List.mem_cons_self
      have hps : ∀ p ∈ ps, p < n := fun x hx => hp x (List.mem_cons_of_mem _ hx)
      have hpos := ok.pos
      rcases h with ⟨i0, q0, qu, m, hm, e⟩ | ⟨rfl, hd⟩
      · have mm := mi.inn m (List.mem_of_getElem? hm)
        obtain ⟨t, ht, et, t0, t1⟩ := ok.at q0 h1 hpp
        obtain ⟨t', ht', et', t0', t1'⟩ := ok.at mm.1 mm.2.1 hpp
        have hc := st.step m q mm.1 mm.2.1 q0 h1 mm.2.2 qu e
        obtain ⟨t2, ht2, ec⟩ := map_get hc ht'
        rw [ht] at ht2; cases ht2
        have hil := (List.getElem?_eq_some_iff.mp hm).1
        obtain ⟨q', hq', rr⟩ := rd i.toNat _ (List.getElem?_eq_getElem (by omega))
        rw [hm] at hq'; cases hq'
        obtain ⟨x, hx, rel⟩ := All2.get' rr ht'
        have ex : stp rs i p = x := by
          rw [stp_tg i0]
          unfold tg
          rw [getD_some (List.getElem?_eq_getElem (show i.toNat < rs.length by omega))]
          exact getD_some hx
        rw [ex, et]
        have hrt : 0 ≤ t → gb rc t = true := fun z => hR.clo q q0 h1 (hr q0) t (List.mem_of_getElem? ht) z
        refine ih t x hps t1 hrt ?_
        unfold cls at ec
        rcases rel with ⟨a1, a2, x0, m', hm', e'⟩ | ⟨a1, rfl⟩
        · rw [if_pos ⟨a1, a2⟩] at ec
          have := st.nn t' a1 t1' a2
          by_cases c : 0 ≤ t ∧ gb us t = true
          · rw [if_pos c] at ec
            exact .inl ⟨x0, c.1, c.2, m', hm', e'.trans ec⟩
          · rw [if_neg c] at ec; omega
        · rw [if_neg a1] at ec
          refine .inr ⟨rfl, fun c => ?_⟩
          rw [if_pos c] at ec
          have := st.nn t c.1 t1 c.2
          omega
      · rw [stp_neg]
        by_cases q0 : 0 ≤ q
        · obtain ⟨t, ht, et, t0, t1⟩ := ok.at q0 h1 hpp
          rw [et]
          refine ih t (-1) hps t1 (fun z => hR.clo q q0 h1 (hr q0) t (List.mem_of_getElem? ht) z) (.inr ⟨rfl, fun c => hd ⟨q0, ?_⟩⟩)
          rw [hB q q0 h1, hr q0, Bool.true_and]
          rw [hB t c.1 t1] at c
          exact hL.clo q q0 h1 t (List.mem_of_getElem? ht) c.1 (Bool.and_eq_true_iff.mp c.2).2
        · have es : stp rows q p = -1 := by unfold stp; rw [if_pos (by omega)]
          rw [es]
          exact ih (-1) (-1) hps (by omega) (fun z => by omega) (.inr ⟨rfl, fun c => by omega⟩)
  intro ps hp
  unfold acc
  have := key ps 0 0 hp (by have := ok.pos; omega) (fun _ => hR.zero) (.inl ⟨by decide, by decide, u0, 0, mi.zero, rfl⟩)
  exact decide_eq_decide.mpr this
theorem mok_small (ok : MOk n rows ends) (mi : MI rows us sp ms) (rd : RD rows us sp ms rs) (hl : rs.length = ms.length) : MOk n rs (fends ends ms ms.length) := by
  have f := mi.few
  have h0 := (List.getElem?_eq_some_iff.mp mi.zero).1
  refine ⟨by omega, by have := ok.few; omega, fun r hr => ?_, fends_asc _ _ _, fun e he => ?_⟩
  · obtain ⟨i, hi⟩ := List.getElem?_of_mem hr
    obtain ⟨q, hq, rr⟩ := rd i r hi
    have mq := mi.inn q (List.mem_of_getElem? hq)
    refine ⟨rr.length.symm.trans (ok.wide _ (tg_mem (rows := rows) (q := q) (by omega))).1, fun x hx => ?_⟩
    obtain ⟨j, hj⟩ := List.getElem?_of_mem hx
    obtain ⟨t, _, rel⟩ := All2.get rr hj
    rcases rel with ⟨_, _, x0, m, hm, _⟩ | ⟨_, rfl⟩
    · have := (List.getElem?_eq_some_iff.mp hm).1
      omega
    · omega
  · have := fends_mem.mp he
    omega
end
/-! ### finished rows stand -/
def FinR (H : Hp) (qs : List Addr) (rs : List (List Int)) : Prop := All2 (fun q r => H q = some (.lst (r.map V.int))) qs rs
theorem FinR.upd {H : Hp} {qs : List Addr} {rs : List (List Int)} {b : Addr} {o : HO} (h : FinR H qs rs) (n : ∀ q ∈ qs, q ≠ b) : FinR (upd H b o) qs rs :=
  All2.imp_mem (fun q r hq z => by rw [upd_ne (n q hq)]; exact z) h
theorem FinR.new {H : Hp} {qs : List Addr} {rs : List (List Int)} {b : Addr} (h : FinR H qs rs) (n : H b = none) : ∀ q ∈ qs, q ≠ b := fun q hq => by
  obtain ⟨i, hi⟩ := List.getElem?_of_mem hq
  have hl := (List.getElem?_eq_some_iff.mp hi).1
  obtain ⟨r, _, hr⟩ := All2.get' h hi
  exact ne_of_none hr n
theorem FinR.rows {H : Hp} {qs : List Addr} {rs : List (List Int)} (h : FinR H qs rs) {a : Addr} (e : H a = some (.lst (qs.map V.ref))) : Rows H a rs := ⟨qs, .l e, All2.imp (fun _ _ z => .l z) h⟩
/-- within a row of the smallest machine: its first targets ts done -/
structure SmW (G : Hp) (rows : List (List Int)) (us : List Bool) (sp : List Int) (N M R W : Addr) (qs : List Addr) (rs : List (List Int)) (q0 : Int) (ts : List Int) (H : Hp) (kvs : List (Key × V)) (ms r : List Int) : Prop where
  sm : Same G H
  hN : H N = some (.dK kvs)
  nd : NumD kvs sp ms
  hM : H M = some (.lst (ms.map V.int))
  hR : H R = some (.lst (qs.map V.ref))
  hW : H W = some (.lst (r.map V.int))
  fin : FinR H qs rs
  mi : MI rows us sp ms
  rd : RD rows us sp ms rs
  at0 : ms[rs.length]? = some q0
  rr : RowR us sp ms ts r
theorem SmW.put {G : Hp} {rows : List (List Int)} {us : List Bool} {sp : List Int} {N M R W : Addr} {qs : List Addr} {rs : List (List Int)} {q0 : Int} {ts : List Int} {H : Hp} {kvs : List (Key × V)} {ms r : List Int} (h : SmW G rows us sp N M R W qs rs q0 ts H kvs ms r)
    (fW : G W = none) (nN : N ≠ W) (nM : M ≠ W) (nR : R ≠ W) (nq : ∀ q ∈ qs, q ≠ W) {t x : Int} (rel : (0 ≤ t ∧ gb us t = true ∧ 0 ≤ x ∧ ∃ m, ms[x.toNat]? = some m ∧ gi sp m = gi sp t) ∨ (¬ (0 ≤ t ∧ gb us t = true) ∧ x = -1)) :
    SmW G rows us sp N M R W qs rs q0 (ts ++ [t]) (upd H W (.lst (r.map V.int ++ [.int x]))) kvs ms (r ++ [x]) :=
  ⟨sm_mut h.sm fW, by rw [upd_ne nN]; exact h.hN, h.nd, by rw [upd_ne nM]; exact h.hM, by rw [upd_ne nR]; exact h.hR, by rw [upd_same, List.map_append]; rfl, h.fin.upd nq, h.mi, h.rd, h.at0, All2.snoc h.rr rel⟩
/-- a member more -/
theorem SmW.more {G : Hp} {rows : List (List Int)} {us : List Bool} {sp : List Int} {N M R W : Addr} {qs : List Addr} {rs : List (List Int)} {q0 : Int} {ts : List Int} {H : Hp} {kvs : List (Key × V)} {ms r : List Int} (h : SmW G rows us sp N M R W qs rs q0 ts H kvs ms r)
    (fN : G N = none) (fM : G M = none) (nMN : M ≠ N) (nRN : R ≠ N) (nWN : W ≠ N) (nRM : R ≠ M) (nWM : W ≠ M) (nq : ∀ q ∈ qs, q ≠ N ∧ q ≠ M) {t : Int} (t0 : 0 ≤ t) (t1 : t < rows.length) (tu : gb us t = true) (hn : ∀ m ∈ ms, gi sp m ≠ gi sp t) :
    SmW G rows us sp N M R W qs rs q0 ts (upd (upd H N (.dK (putK kvs (.inl (gi sp t)) (V.int (ms.length : Int))))) M (.lst (ms.map V.int ++ [.int t]))) (putK kvs (.inl (gi sp t)) (V.int (ms.length : Int))) (ms ++ [t]) r :=
  ⟨sm_mut (sm_mut h.sm fN) fM, by rw [upd_ne (Ne.symm nMN)]; exact upd_same, h.nd.push hn, by rw [upd_same, List.map_append]; rfl, by rw [upd_ne nRM, upd_ne nRN]; exact h.hR, by rw [upd_ne nWM, upd_ne nWN]; exact h.hW,
    (h.fin.upd fun q hq => (nq q hq).1).upd fun q hq => (nq q hq).2, h.mi.push t0 t1 tu hn, h.rd.mono t, get_app h.at0 _, h.rr.mono t⟩
end Fy

set_option Elab.async false
set_option linter.all false
set_option maxRecDepth 100000
set_option maxHeartbeats 4000000
namespace Fy
open PySem PySem.Spec PyProof.Rows L2
/-! ### words by length, then letters: their rank -/
abbrev Wd (n : Nat) (w : List Nat) : Prop := ∀ p ∈ w, p < n
def rank (n : Nat) (w : List Nat) : Nat := w.foldl (fun r a => r * n + a + 1) 0
theorem rank_snoc (n : Nat) (w : List Nat) (a : Nat) : rank n (w ++ [a]) = rank n w * n + a + 1 := by
  unfold rank; rw [List.foldl_append]; rfl
theorem Wd.init {n : Nat} {w : List Nat} {a : Nat} (h : Wd n (w ++ [a])) : Wd n w ∧ a < n :=
  ⟨fun p hp => h p (List.mem_append_left _ hp), h a (List.mem_append_right _ (List.mem_singleton.mpr rfl))⟩
theorem Wd.snoc {n : Nat} {w : List Nat} {a : Nat} (h : Wd n w) (ha : a < n) : Wd n (w ++ [a]) := fun p hp => by
  rcases List.mem_append.mp hp with z | z
  · exact h p z
  · rw [List.mem_singleton.mp z]; exact ha
theorem rank_inj {n : Nat} : ∀ (k : Nat) (u v : List Nat), u.length ≤ k → Wd n u → Wd n v → rank n u = rank n v → u = v
  | k, u, v, hk, hu, hv, e => by
    rcases List.eq_nil_or_concat u with rfl | ⟨u', a, rfl⟩
    · rcases List.eq_nil_or_concat v with rfl | ⟨v', b, rfl⟩
      · rfl
      · rw [List.concat_eq_append, rank_snoc] at e
        have : rank n [] = 0 := rfl
        omega
    · rw [List.concat_eq_append] at hu e hk ⊢
      rw [rank_snoc] at e
      rcases List.eq_nil_or_concat v with rfl | ⟨v', b, rfl⟩
      · have : rank n [] = 0 := rfl
        omega
      · rw [List.concat_eq_append] at hv e ⊢
        rw [rank_snoc] at e
        obtain ⟨hu', ha⟩ := hu.init
        obtain ⟨hv', hb⟩ := hv.init
        have hn : 0 < n := by omega
        have e' : rank n u' * n + a = rank n v' * n + b := by omega
        have e1 : rank n u' = rank n v' := by
          have h1 : (rank n u' * n + a) / n = rank n u' := by
            rw [Nat.mul_comm, Nat.mul_add_div hn, Nat.div_eq_of_lt ha, Nat.add_zero]
          have h2 : (rank n v' * n + b) / n = rank n v' := by
            rw [Nat.mul_comm, Nat.mul_add_div hn, Nat.div_eq_of_lt hb, Nat.add_zero]
          rw [← h1, e', h2]
        have e2 : a = b := by rw [e1] at e'; omega
        rw [List.length_append, List.length_singleton] at hk
        cases k with
        | zero => omega
        | succ k => rw [rank_inj k u' v' (by omega) hu' hv' e1, e2]
/-! ### a first word that tells two machines apart -/
def IsPart (n : Nat) (A : List (List Int)) (EA : List Int) (B : List (List Int)) (EB : List Int) : Option (List Nat) → Prop
  | none => ∀ u, Wd n u → acc A EA u = acc B EB u
  | some w => Wd n w ∧ acc A EA w ≠ acc B EB w ∧ ∀ u, Wd n u → rank n u < rank n w → acc A EA u = acc B EB u
theorem IsPart.unique {n : Nat} {A B : List (List Int)} {EA EB : List Int} : ∀ {r r' : Option (List Nat)}, IsPart n A EA B EB r → IsPart n A EA B EB r' → r = r'
  | none, none, _, _ => rfl
  | none, some w, h, h' => absurd (h w h'.1) h'.2.1
  | some w, none, h, h' => absurd (h' w h.1) h.2.1
  | some w, some w', h, h' => by
    have : rank n w = rank n w' := by
      rcases Nat.lt_trichotomy (rank n w) (rank n w') with z | z | z
      · exact absurd (h'.2.2 w h.1 z) h.2.1
      · exact z
      · exact absurd (h.2.2 w' h'.1 z) h'.2.1
    rw [rank_inj w.length w w' (Nat.le_refl _) h.1 h'.1 this]
theorem IsPart.congr {n : Nat} {A A' B B' : List (List Int)} {EA EA' EB EB' : List Int} (hA : ∀ u, Wd n u → acc A' EA' u = acc A EA u) (hB : ∀ u, Wd n u → acc B' EB' u = acc B EB u) : ∀ {r : Option (List Nat)}, IsPart n A EA B EB r → IsPart n A' EA' B' EB' r
  | none, h => fun u hu => by rw [hA u hu, hB u hu]; exact h u hu
  | some w, h => ⟨h.1, by rw [hA w h.1, hB w h.1]; exact h.2.1, fun u hu hr => by rw [hA u hu, hB u hu]; exact h.2.2 u hu hr⟩
/-! ### the search by breadth -/
def prW (A B : List (List Int)) (w : List Nat) : Int × Int := (run1 A 0 w, run1 B 0 w)
def sp2 (A B : List (List Int)) (x : Int × Int) (a : Nat) : Int × Int := (stp A x.1 a, stp B x.2 a)
def df (EA EB : List Int) (x : Int × Int) : Bool := decide (x.1 ∈ EA) != decide (x.2 ∈ EB)
theorem prW_snoc (A B : List (List Int)) (w : List Nat) (a : Nat) : prW A B (w ++ [a]) = sp2 A B (prW A B w) a := by
  unfold prW sp2; rw [run1_snoc, run1_snoc]
theorem df_acc {A B : List (List Int)} {EA EB : List Int} {w : List Nat} : df EA EB (prW A B w) = (acc A EA w != acc B EB w) := rfl
theorem get_idx {α : Type} {l : List α} {x : α} (h : x ∈ l) : ∃ j : Nat, l[j]? = some x := List.getElem?_of_mem h
structure BF (n : Nat) (A B : List (List Int)) (EA EB : List Int) (qs : List (List Nat)) (k pl : Nat) : Prop where
  first : qs[0]? = some []
  val : ∀ w ∈ qs, Wd n w
  nd : (qs.map (prW A B)).Nodup
  srt : qs.Pairwise (fun u v => rank n u < rank n v)
  bnd : ∀ w0, qs[k]? = some w0 → ∀ w ∈ qs, rank n w ≤ rank n w0 * n + pl
  suc : ∀ (i : Nat) w a, i < k → qs[i]? = some w → a < n → ∃ w' ∈ qs, prW A B w' = prW A B (w ++ [a]) ∧ rank n w' ≤ rank n (w ++ [a])
  cur : ∀ w a, qs[k]? = some w → a < pl → ∃ w' ∈ qs, prW A B w' = prW A B (w ++ [a]) ∧ rank n w' ≤ rank n (w ++ [a])
  same : ∀ (i : Nat) w, i < k → qs[i]? = some w → df EA EB (prW A B w) = false
  thin : ∀ (j : Nat) w, qs[j]? = some w → w.length ≤ j
section
variable {n : Nat} {A B : List (List Int)} {EA EB : List Int} {qs : List (List Nat)} {k pl : Nat} {w : List Nat}
theorem BF.zero (n : Nat) (A B : List (List Int)) (EA EB : List Int) : BF n A B EA EB [[]] 0 0 := by
  refine ⟨rfl, fun w hw => ?_, List.nodup_cons.mpr ⟨List.not_mem_nil, List.nodup_nil⟩, List.pairwise_singleton _ _, fun w0 h0 w hw => ?_, fun i w a hi => by omega, fun w a _ ha => by omega, fun i w hi => by omega, fun j w hj => ?_⟩
  · rw [List.mem_singleton.mp hw]; intro p hp; cases hp
  · rw [List.mem_singleton.mp hw]; exact Nat.zero_le _
  · have := List.mem_of_getElem? hj
    rw [List.mem_singleton.mp this]; exact Nat.zero_le _
theorem BF.mem_old {qs : List (List Nat)} {x : Int × Int} (h : x ∈ qs.map (prW A B)) : ∃ w' ∈ qs, prW A B w' = x := by
  obtain ⟨w', h1, h2⟩ := List.mem_map.mp h
  exact ⟨w', h1, h2⟩
theorem BF.old (h : BF n A B EA EB qs k pl) (hw : qs[k]? = some w) (hm : prW A B (w ++ [pl]) ∈ qs.map (prW A B)) : BF n A B EA EB qs k (pl + 1) := by
  refine ⟨h.first, h.val, h.nd, h.srt, fun w0 h0 v hv => Nat.le_trans (h.bnd w0 h0 v hv) (by omega), h.suc, fun v a hv ha => ?_, h.same, h.thin⟩
  rcases Nat.lt_succ_iff_lt_or_eq.mp ha with z | z
  · exact h.cur v a hv z
  · subst z
    rw [hw] at hv; cases hv
    obtain ⟨w', h1, h2⟩ := BF.mem_old hm
    refine ⟨w', h1, h2, ?_⟩
    rw [rank_snoc]
    have := h.bnd w hw w' h1
    omega
theorem BF.new (h : BF n A B EA EB qs k pl) (hw : qs[k]? = some w) (hp : pl < n) (hm : prW A B (w ++ [pl]) ∉ qs.map (prW A B)) : BF n A B EA EB (qs ++ [w ++ [pl]]) k (pl + 1) := by
  have hk := (List.getElem?_eq_some_iff.mp hw).1
  refine ⟨get_app h.first _, fun v hv => ?_, ?_, ?_, fun w0 h0 v hv => ?_, fun i v a hi hv ha => ?_, fun v a hv ha => ?_, fun i v hi hv => ?_, fun j v hj => ?_⟩
  · rcases List.mem_append.mp hv with z | z
    · exact h.val v z
    · rw [List.mem_singleton.mp z]; exact Wd.snoc (h.val w (List.mem_of_getElem? hw)) hp
  · rw [List.map_append]
    refine List.nodup_append.mpr ⟨h.nd, List.nodup_cons.mpr ⟨List.not_mem_nil, List.nodup_nil⟩, fun a ha b hb => ?_⟩
    rw [List.mem_singleton.mp hb]
    rintro rfl
    exact hm ha
  · refine List.pairwise_append.mpr ⟨h.srt, List.pairwise_singleton _ _, fun a ha b hb => ?_⟩
    rw [List.mem_singleton.mp hb, rank_snoc]
    have := h.bnd w hw a ha
    omega
  · rw [List.getElem?_append_left hk, hw] at h0; cases h0
    rcases List.mem_append.mp hv with z | z
    · exact Nat.le_trans (h.bnd w hw v z) (by omega)
    · rw [List.mem_singleton.mp z, rank_snoc]; omega
  · rw [List.getElem?_append_left (by omega)] at hv
    obtain ⟨w', h1, h2⟩ := h.suc i v a hi hv ha
    exact ⟨w', List.mem_append_left _ h1, h2⟩
  · rw [List.getElem?_append_left hk, hw] at hv; cases hv
    rcases Nat.lt_succ_iff_lt_or_eq.mp ha with z | z
    · obtain ⟨w', h1, h2⟩ := h.cur w a hw z
      exact ⟨w', List.mem_append_left _ h1, h2⟩
    · subst z
      exact ⟨w ++ [a], List.mem_append_right _ (List.mem_singleton.mpr rfl), rfl, Nat.le_refl _⟩
  · rw [List.getElem?_append_left (by omega)] at hv
    exact h.same i v hi hv
  · by_cases z : j < qs.length
    · rw [List.getElem?_append_left z] at hj
      exact h.thin j v hj
    · have hjl := (List.getElem?_eq_some_iff.mp hj).1
      rw [List.length_append, List.length_singleton] at hjl
      have : j = qs.length := by omega
      subst this
      rw [snoc_last rfl] at hj; cases hj
      rw [List.length_append, List.length_singleton]
      have := h.thin k w hw
      omega
theorem BF.next (h : BF n A B EA EB qs k n) (hw : qs[k]? = some w) (hs : df EA EB (prW A B w) = false) : BF n A B EA EB qs (k + 1) 0 := by
  refine ⟨h.first, h.val, h.nd, h.srt, fun w1 h1 v hv => ?_, fun i v a hi hv ha => ?_, fun v a _ ha => by omega, fun i v hi hv => ?_, h.thin⟩
  · have b := h.bnd w hw v hv
    obtain ⟨p1, q1⟩ := List.getElem?_eq_some_iff.mp hw
    obtain ⟨p2, q2⟩ := List.getElem?_eq_some_iff.mp h1
    have lt := List.pairwise_iff_getElem.mp h.srt k (k + 1) p1 p2 (Nat.lt_succ_self k)
    rw [q1, q2] at lt
    have : (rank n w + 1) * n ≤ rank n w1 * n := Nat.mul_le_mul_right n lt
    rw [Nat.add_mul, Nat.one_mul] at this
    omega
  · rcases Nat.lt_succ_iff_lt_or_eq.mp hi with z | z
    · exact h.suc i v a z hv ha
    · subst z; exact h.cur v a hv ha
  · rcases Nat.lt_succ_iff_lt_or_eq.mp hi with z | z
    · exact h.same i v z hv
    · subst z; rw [hw] at hv; cases hv; exact hs
/-- all words of a rank below r that the queue's done part reaches -/
theorem BF.reach (h : BF n A B EA EB qs k 0) (r : Nat) (hr : ∀ (i : Nat) w, qs[i]? = some w → rank n w < r → i < k) : ∀ (m : Nat) (u : List Nat), u.length ≤ m → Wd n u → rank n u < r → ∃ (j : Nat) (v : List Nat), j < k ∧ qs[j]? = some v ∧ prW A B v = prW A B u ∧ rank n v ≤ rank n u
  | m, u, hm, hu, hur => by
    rcases List.eq_nil_or_concat u with rfl | ⟨u', a, rfl⟩
    · exact ⟨0, [], hr 0 [] h.first hur, h.first, rfl, Nat.le_refl _⟩
    · rw [List.concat_eq_append] at hm hu hur ⊢
      obtain ⟨hu', ha⟩ := hu.init
      rw [List.length_append, List.length_singleton] at hm
      have e := rank_snoc n u' a
      have mono : rank n u' ≤ rank n u' * n := Nat.le_mul_of_pos_right _ (by omega)
      cases m with
      | zero => omega
      | succ m =>
        obtain ⟨j, v, hj, hv, e1, e2⟩ := BF.reach h r hr m u' (by omega) hu' (by omega)
        obtain ⟨w', h1, h2, h3⟩ := h.suc j v a hj hv ha
        have hle : rank n (v ++ [a]) ≤ rank n (u' ++ [a]) := by
          rw [rank_snoc, rank_snoc]
          have := Nat.mul_le_mul_right n e2
          omega
        obtain ⟨i, hi⟩ := get_idx h1
        refine ⟨i, w', hr i w' hi (by omega), hi, ?_, by omega⟩
        rw [h2, prW_snoc, prW_snoc, e1]
theorem BF.found (h : BF n A B EA EB qs k 0) (hw : qs[k]? = some w) (hd : df EA EB (prW A B w) = true) : IsPart n A EA B EB (some w) := by
  refine ⟨h.val w (List.mem_of_getElem? hw), fun e => ?_, fun u hu hr => ?_⟩
  · rw [df_acc, e] at hd; simp at hd
  · have key := h.reach (rank n w) (fun i v hi hr => by
      refine Classical.byContradiction fun z => ?_
      obtain ⟨p1, q1⟩ := List.getElem?_eq_some_iff.mp hw
      obtain ⟨p2, q2⟩ := List.getElem?_eq_some_iff.mp hi
      by_cases e : i = k
      · subst e; rw [q1] at q2; subst q2; omega
      · have lt := List.pairwise_iff_getElem.mp h.srt k i p1 p2 (by omega)
        rw [q1, q2] at lt
        omega) u.length u (Nat.le_refl _) hu hr
    obtain ⟨j, v, hj, hv, e1, _⟩ := key
    have := h.same j v hj hv
    rw [e1, df_acc] at this
    simpa using this
theorem BF.none (h : BF n A B EA EB qs k 0) (hl : qs.length ≤ k) : IsPart n A EA B EB none := fun u hu => by
  obtain ⟨j, v, hj, hv, e1, _⟩ := h.reach (rank n u + 1) (fun i v hi _ => by have := (List.getElem?_eq_some_iff.mp hi).1; omega) u.length u (Nat.le_refl _) hu (Nat.lt_succ_self _)
  have := h.same j v hj hv
  rw [e1, df_acc] at this
  simpa using this
theorem BF.few (h : BF n A B EA EB qs k pl) (oA : MOk n A EA) (oB : MOk n B EB) : qs.length ≤ (A.length + 1) * (B.length + 1) := by
  have pA := oA.pos
  have pB := oB.pos
  have hin : ∀ x ∈ qs.map (prW A B), (-1 ≤ x.1 ∧ x.1 < A.length) ∧ (-1 ≤ x.2 ∧ x.2 < B.length) := fun x hx => by
    obtain ⟨w, hw, rfl⟩ := List.mem_map.mp hx
    exact ⟨run1_range oA w 0 (by decide) (by omega) (h.val w hw), run1_range oB w 0 (by decide) (by omega) (h.val w hw)⟩
  have key := nodup_few ((A.length + 1) * (B.length + 1)) ((qs.map (prW A B)).map fun x => (x.1 + 1) * ((B.length : Int) + 1) + (x.2 + 1)) (by
    refine List.pairwise_map.mpr ?_
    refine List.Pairwise.imp_of_mem (fun {a b} ha hb hne e => hne ?_) h.nd
    obtain ⟨a1, a2⟩ := hin a ha
    obtain ⟨b1, b2⟩ := hin b hb
    have e1 : a.1 = b.1 := by
      have d : ∀ x y : Int, 0 ≤ y → y < (B.length : Int) + 1 → (x * ((B.length : Int) + 1) + y) / ((B.length : Int) + 1) = x := fun x y y0 y1 => by
        rw [Int.add_comm, Int.add_mul_ediv_right _ _ (by omega), Int.ediv_eq_zero_of_lt y0 y1, Int.zero_add]
      have h1 := d (a.1 + 1) (a.2 + 1) (by omega) (by omega)
      have h2 := d (b.1 + 1) (b.2 + 1) (by omega) (by omega)
      rw [e, h2] at h1
      omega
    have e2 : a.2 = b.2 := by rw [e1] at e; omega
    exact Prod.ext e1 e2) (fun y hy => by
    obtain ⟨x, hx, rfl⟩ := List.mem_map.mp hy
    obtain ⟨a1, a2⟩ := hin x hx
    have h1 : 0 ≤ (x.1 + 1) * ((B.length : Int) + 1) := Int.mul_nonneg (by omega) (by omega)
    have h2 : (x.1 + 1) * ((B.length : Int) + 1) ≤ (A.length : Int) * ((B.length : Int) + 1) := Int.mul_le_mul_of_nonneg_right (by omega) (by omega)
    have h3 : (((A.length + 1) * (B.length + 1) : Nat) : Int) = (A.length : Int) * ((B.length : Int) + 1) + ((B.length : Int) + 1) := by
      push_cast; rw [Int.add_mul, Int.one_mul]
    omega)
  simpa using key
end
/-! ### the word's text -/
def wt (l : Str) (w : List Nat) : Str := ⟨(w.map fun p => (cs l).getD p 0).toArray⟩
theorem wt_nil (l : Str) : wt l [] = "" := by rfl
theorem wt_snoc {l : Str} {w : List Nat} {p c : Nat} (h : (cs l)[p]? = some c) : wt l (w ++ [p]) = wt l w ++ sg c := by
  unfold wt
  rw [List.map_append]
  have : (cs l).getD p 0 = c := getD_some h
  show (⟨_⟩ : Str) = ⟨_⟩
  congr 1
  apply Array.ext'
  simpa using this
theorem wt_len (l : Str) (w : List Nat) : (wt l w).cps.size = w.length := by simp [wt]
theorem cs_wt (l : Str) (w : List Nat) : cs (wt l w) = w.map fun p => (cs l).getD p 0 := by simp [cs, wt]
/-! ### pairs seen, the queue -/
def kp (x : Int × Int) : List Key := [.inl x.1, .inl x.2]
def SeenD (kvs : List (List Key × V)) (ps : List (Int × Int)) : Prop := kvs.length ≤ ps.length ∧ ∀ x, (valV kvs (kp x)).isSome = decide (x ∈ ps)
theorem kp_inj {x y : Int × Int} (h : kp x = kp y) : x = y := by
  unfold kp at h
  simp only [List.cons.injEq, Sum.inl.injEq, and_true] at h
  exact Prod.ext h.1 h.2
theorem SeenD.one (x : Int × Int) (v : V) : SeenD [(kp x, v)] [x] := by
  refine ⟨Nat.le_refl _, fun y => ?_⟩
  by_cases e : y = x
  · subst e
    rw [valV_pos (p := (kp y, v)) rfl]; simp
  · rw [valV_neg (p := (kp x, v)) (fun z => e (kp_inj z).symm)]
    simp [e, valV_nil]
theorem SeenD.push {kvs : List (List Key × V)} {ps : List (Int × Int)} (h : SeenD kvs ps) (x : Int × Int) (v : V) : SeenD (putK kvs (kp x) v) (ps ++ [x]) := by
  refine ⟨?_, fun y => ?_⟩
  · have := length_putK kvs (kp x) v
    have := h.1
    rw [List.length_append, List.length_singleton]; omega
  · rw [valV_put]
    by_cases e : y = x
    · subst e; simp
    · rw [if_neg (fun z => e (kp_inj z)), h.2 y]
      simp [e]
/-- the queue's entries -/
def QAt (l : Str) (A B : List (List Int)) (H : Hp) : List Addr → List (List Nat) → Prop := All2 fun p w => H p = some (.tup [.str (wt l w), .int (prW A B w).1, .int (prW A B w).2])
theorem QAt.mono {l : Str} {A B : List (List Int)} {H H' : Hp} {ps : List Addr} {qs : List (List Nat)} (e : Same H H') (h : QAt l A B H ps qs) : QAt l A B H' ps qs := All2.imp (fun _ _ z => e _ _ z) h
theorem QAt.upd {l : Str} {A B : List (List Int)} {H : Hp} {ps : List Addr} {qs : List (List Nat)} {b : Addr} {o : HO} (h : QAt l A B H ps qs) (n : ∀ ys, H b ≠ some (.tup ys)) : QAt l A B (upd H b o) ps qs :=
  All2.imp (fun p w z => by rw [upd_ne (by rintro rfl; exact n _ z)]; exact z) h
def optW (l : Str) : Option (List Nat) → V
  | none => .non
  | some w => .str (wt l w)
end Fy

set_option Elab.async false
set_option linter.all false
set_option maxRecDepth 100000
set_option maxHeartbeats 4000000
namespace Fy
open PySem PySem.Spec PySem.Calls PyProof.Rows L2 NdefX
/-! ### ValueError.__init__ bound to an exception, called -/
section
variable {prog : Program} {w : World} {A : Around} {E : Value → Shared → Prop} {h : Heap} {g : Array GenState} {d : Drawn} {t : Nat} {os : OsState}
variable {nm q : Str} {C N : Addr} {bs bm : List Value} {hdct : Bool} {sn : List Str} {sub : List Value} {ab : Bool} {col : Option Bool} {dd : Option Addr} {k0 k1 k2 k3 k5 : Option Value}
theorem mw_call {u e t0 : Addr} {rest : List Value} {Q : Value → Shared → Prop}
    (hC : h.get? C = some (excClassObj nm q C N bs bm hdct sn sub ab col dd k0 k1 k2 k3 k5 "ValueError.__new__")) (he : h.get? e = some (HandSPX.excO C t0)) (hu : h.get? u = some (PySem.W.kxs_mw "ValueError.__init__" e)) (hrest : rest.length ≤ sizeLine)
    (hq : ∀ h' t1, (∀ b o, b ≠ e → h.get? b = some o → h'.get? b = some o) → h'.get? e = some (HandSPX.excO C t1) → Q .none ⟨h', g, d, t, os⟩) :
    wpAny (model prog w) A (call (.ref u) rest) Q E ⟨h, g, d, t, os⟩ := by
  refine wpAny_call (codeAny_of_tree ?_)
  show wpAny _ A.in1 (callAny (.ref u) ⟨rest, []⟩) _ _ _
  simp only [callAny]
  refine wpAny_bind (wpAny_load hu ?_)
  simp only [PySem.W.kxs_mw, show (Value.type "method-wrapper" == Value.type "method" || Value.type "method-wrapper" == Value.type "builtin_function_or_method" || Value.type "method-wrapper" == Value.type "method-wrapper") = true by decide, if_true]
  refine PySem.W.KFB.if_so (by decide) ?_
  refine wpAny_bind (PySem.ESX.check_bound F.excBase_ValueError hC he rfl ?_)
  refine wpAny_bind (wpAny_pure (wpAny_pure ?_))
  refine ⟨Code.quiet_builtin _ (by decide +kernel), codeAny_builtin F.excBase_ValueError.initEntry ?_⟩
  rw [Around.under_plainId F.excBase_ValueError.init.plain _]
  wp_walk
  refine hq _ h.objs.size (fun b o hb ho => ?_) ?_
  · rw [Heap.get?_update_other _ _ (Ne.symm hb)]
    exact Heap.get?_push_of_some _ ho
  · rw [Heap.get?_update_self _ (Heap.get?_push_of_some _ he) rfl]
    rfl
end
/-! ### super().__init__('m') in an own exception's __init__ -/
/-- what the written part says of such a def F at f, of the class at C -/
structure SupF (K : PySem.W.Frag) (P : Program) (C f cc : Addr) (F : NF) : Prop where
  T : OexC K C
  fn : ∃ od doc pm ctv osl, K.lookup f = some (⟨.type "function", od, .func (F.fd doc pm ctv), osl⟩ : Obj)
  cl : F.cl = [(("__class__" : Str), cc)]
  cell : ∃ o1 o2 o3, K.lookup cc = some (⟨o1, o2, .cell (some (.ref C)), o3⟩ : Obj)
  code : PySem.W.codeIn K (.ref F.c) F.qual = true
  file : ∃ o1 o2 o3 vs tf, K.lookup F.c = some (⟨o1, o2, .fields vs, o3⟩ : Obj) ∧ vs[2]? = some (.str P.main.file tf)
  top : (P.main.scope.names.lookup ("super" : Str)).isSome = false
  sup : PySem.W.ks_superIn K C C "__init__" = some (some (.builtin "ValueError.__init__"))
  opq : PySem.W.nsIn K cStatics "thirdparty.any" = some none
  bs : PySem.W.subIn K (.ref C) (.type "ValueError") = some true
  sub : PySem.W.mroIn K C (.ref C) = some true
theorem oex_clsIn {K : PySem.W.Frag} {C : Addr} (T : OexC K C) : ∃ cd, PySem.W.clsIn K C = some cd ∧ ∃ o, K.lookup C = some o ∧ o.data = .cls cd := by
  obtain ⟨nm, q, N, bs, bm, sn, sub, ab, col, dd, k0, k1, k2, k3, k5, hC, hbm⟩ := T.cls
  exact ⟨_, by unfold PySem.W.clsIn; rw [hC] <;> rfl, _, hC, rfl⟩
/-- the object in the heap stays such an exception -/
theorem exo_write {X : Cx} {pins : List (Addr × Obj)} {σ : L2.St} {H : Hp} {hp h' : Heap} {g : Array GenState} {d : Drawn} {t : Nat} {os : OsState} {a C t1 : Addr} (I : Inv X pins σ H ⟨hp, g, d, t, os⟩) (e : H a = some (exo a C none))
    (k : ∀ b o, b ≠ a → hp.get? b = some o → h'.get? b = some o) (hx : h'.get? a = some (HandSPX.excO C t1)) : Inv X pins σ H ⟨h', g, d, t, os⟩ := by
  have J := I.write (t' := t) (x := a) (e := a) (o := exo a C none) (by rw [e]; exact True.intro) (.inl rfl) k ⟨_, hx⟩ (exo_ok hx)
  have eu : upd H a (exo a C none) = H := by
    funext b
    by_cases hb : b = a
    · rw [hb, upd_same, e]
    · rw [upd_ne hb]
  rwa [eu] at J
theorem super_step {CX : CXT} {P : Program} {w : World} {K : PySem.W.Frag} {mg : Str → Option Value} {base : Heap} {N : List Str} {F : NF} {f C cc : Addr} {A : Around} {outer : List Env} {s0 s : Shared} {H0 H : Hp} {E : XK} {σ : L2.St} {a : Addr} {m : Str} {j : Nat} {p0 p1 p2 p3 p4 p5 : Pos} {ar : Arg}
    {Q : Flow → Shared → Prop} {E' : Value → Shared → Prop}
    (S : SupF K P C f cc F) (I : Inv (ncx CX P w K mg base N F f A outer s0 H0 E) [] σ H s) (hmg : mg "super" = none) (har : (F.params.posonlyargs ++ F.params.args).head? = some ar) (hN0 : N[0]? = some ar.arg) (hloc : F.scope.names.lookup ar.arg = some .local)
    (hks : F.scope.names.lookup ("super" : Str) = some .globalImplicit) (hkc : F.scope.names.lookup ("__class__" : Str) = some .free) (hk : F.scope.kind = .function)
    (hi : interactive (envF F f s0.heap.objs.size) = false) (hsw : swapsWith (.Call (.Attribute (.Call (.Name "super" p0) [] [] p1) "__init__" p2) [.Constant (.str m) j p3] [] p4) none p5.line (envF F f s0.heap.objs.size) = pure false)
    {pl : Sem Bool} (hev : eval (.Call (.Attribute (.Call (.Name "super" p0) [] [] p1) "__init__" p2) [.Constant (.str m) j p3] [] p4) (envF F f s0.heap.objs.size) = (do
      let ov ← attributeBase (.Call (.Name "super" p0) [] [] p1) "__init__" (envF F f s0.heap.objs.size) (eval (.Call (.Name "super" p0) [] [] p1) (envF F f s0.heap.objs.size))
      standAt p2.atName
      let (f', first) ← holding [ov] (getMethod ov "__init__" pl)
      callWith p4 f' first (backTo p4 (starEach [.Constant (.str m) j p3] (envF F f s0.heap.objs.size))) []))
    (h0 : σ[0]? = some (some (.ref a))) (ea : H a = some (exo a C none)) (q : ∀ s', Inv (ncx CX P w K mg base N F f A outer s0 H0 E) [] σ H s' → Q .next s') :
    PySem.wpAt (model P w) (A.deeper (envF F f s0.heap.objs.size)) (.func F.body (envF F f s0.heap.objs.size)) (exec (.Expr (.Call (.Attribute (.Call (.Name "super" p0) [] [] p1) "__init__" p2) [.Constant (.str m) j p3] [] p4) p5) (envF F f s0.heap.objs.size)) Q E' s := by
  have X := I.kIn
  obtain ⟨od, doc, pm, ctv, osl, hfn⟩ := S.fn
  obtain ⟨c1, c2, c3, hcell⟩ := S.cell
  obtain ⟨f1, f2, f3, vs, tf, hcode, hvs⟩ := S.file
  obtain ⟨cdC, hcd, oC, hoC, hdC⟩ := oex_clsIn S.T
  obtain ⟨t1, hex⟩ := exo_at I.hok ea
  obtain ⟨mL, hns, hlk⟩ := id I.loc
  obtain ⟨u0, hu0, hl0⟩ := hlk 0 ar.arg (.ref a) hN0 h0 (.inl hloc)
  obtain rfl : u0 = Value.ref a := hu0
  have hm0 : mL ar.arg = some (.ref a) := by
    rcases hl0 with ⟨_, z⟩ | ⟨z, _⟩
    · exact z
    · have z' : F.scope.names.lookup ar.arg = some .cell ∨ F.scope.names.lookup ar.arg = some .free := z
      rw [hloc] at z'
      rcases z' with z' | z' <;> cases z'
  have hC : ∃ nm q N bs bm sn sub ab col dd k0 k1 k2 k3 k5, s.heap.get? C = some (excClassObj nm q C N bs bm true sn sub ab col dd k0 k1 k2 k3 k5 "ValueError.__new__") := by
    obtain ⟨nm, q, N, bs, bm, sn, sub, ab, col, dd, k0, k1, k2, k3, k5, hC, _⟩ := S.T.cls
    exact ⟨nm, q, N, bs, bm, sn, sub, ab, col, dd, k0, k1, k2, k3, k5, X _ _ hC⟩
  have hkC : (envF F f s0.heap.objs.size).cells.lookup ("__class__" : Str) = some cc := by
    show F.cl.lookup _ = _
    rw [S.cl]; rfl
  obtain ⟨mb, hb1, hb2⟩ := I.mod.blt
  have hglob : s.heap.Ns (envF F f s0.heap.objs.size).globals mg := I.mod.glob.keeps I.bk
  have hblt : s.heap.Ns (envF F f s0.heap.objs.size).builtins mb := hb1.keeps I.bk
  have hbv : mb "super" = some (.type "super") := (hb2 _ (by decide)).trans (by rfl)
  have hI : PySem.W.InstAt s.heap a (HandSPX.excO C t1) C none := ⟨hex, rfl, rfl, trivial⟩
  have hne : a ≠ C := PySem.W.ks_ne X hI hcd
  refine ks_wpAt_Expr_any (ks_wpAt_MethodCall ?_ hev) hi hsw
  refine ks_wpAt_super_base (env := envF F f s0.heap.objs.size) (fd := F.fd doc pm ctv) hks hkc (by decide) rfl (X _ _ hfn) rfl har rfl (X _ _ hcode) rfl hvs (by simp) S.top ?_
  refine PySem.W.ks_loadName_global hk hks (loadGlobal_builtin hglob hmg hblt hbv ⟨rfl, ?_⟩)
  refine wpAny_loadName_free hk hkc hkC ⟨_, X _ _ hcell, rfl⟩ ?_
  refine wpAny_loadName_local hk hloc hns hm0 ?_
  refine ks_wpAny_isType_cls (X _ _ hoC) hdC ⟨rfl, ?_⟩
  obtain ⟨hh, g, d, tk, os⟩ := s
  refine ks_wpAny_call_super (X _ _ hoC) hdC hex rfl (fun c e => by cases e) (PySem.W.looks_mroIn X S.sub) (fun h' hso k1 => ?_)
  have I1 : Inv (ncx CX P w K mg base N F f A outer s0 H0 E) [] σ H ⟨h', g, d, tk, os⟩ := I.kept (t' := tk) k1
  have X1 := I1.kIn
  have hI1 : PySem.W.Looks (model P w) h' (isInstance (.ref a) (.type "ValueError")) true := (show PySem.W.InstAt h' a (HandSPX.excO C t1) C none from ⟨k1 _ _ hex, rfl, rfl, trivial⟩).type.andThen (PySem.W.looks_subIn X1 S.bs)
  have hsup := S.sup
  unfold PySem.W.ks_superIn at hsup
  rw [hcd] at hsup
  refine PySem.W.kxs_getMethod PySem.W.kxs_ValueError hso (PySem.W.looks_opaque X1 S.opq) (l₀ := cdC.mro) (fun A Q E s k q => wpAny_bind ((PySem.W.looks_clsIn X1 hcd) A _ E s k (wpAny_pure q))) rfl X1 hsup hI1 hne (by decide) ?_
  have k2 : ∀ b o, h'.get? b = some o → (h'.push (PySem.W.kxs_mw "ValueError.__init__" a)).get? b = some o := fun b o e => Heap.get?_push_of_some _ e
  have I2 : Inv (ncx CX P w K mg base N F f A outer s0 H0 E) [] σ H ⟨h'.push (PySem.W.kxs_mw "ValueError.__init__" a), g, d, tk + 1, os⟩ := I1.kept (t' := tk + 1) k2
  have hu : (h'.push (PySem.W.kxs_mw "ValueError.__init__" a)).get? h'.objs.size = some (PySem.W.kxs_mw "ValueError.__init__" a) := Heap.get?_push_at rfl rfl
  refine PySem.W.kxs_callWith (i := "ValueError.__init__") (x := a) (by rfl) ?_
  obtain ⟨nm, q', N', bs, bm, sn, sub, ab, col, dd, k0, k1', k2', k3, k5, hC⟩ := hC
  refine evalArgs_plain (spliced_cons (Constant_str (k := j) (pos := p3) (spliced_nil ⟨hu, ?_⟩)))
  refine mw_call (t0 := t1) (k2 _ _ (k1 _ _ hC)) (k2 _ _ (k1 _ _ hex)) hu (by show 1 ≤ sizeLine; rw [sizeLine_eq]; omega) fun h2 t2 k3' hx => ?_
  have I3 : Inv (ncx CX P w K mg base N F f A outer s0 H0 E) [] σ H ⟨h'.push (PySem.W.kxs_mw "ValueError.__init__" a), g, d, tk + 1 + 1, os⟩ := I2.tok _
  exact q _ (exo_write I3 ea k3' hx)
/-- THE RULE: such an __init__ by the statements behind its first -/
theorem fn_super {CX : CXT} {P : Program} {w : World} {K : PySem.W.Frag} {mg : Str → Option Value} {base : Heap} {k : Nat} {N ps : List Str} {F : NF} {f C cc : Addr} {sp : Sp} {m : Str} {j : Nat} {p0 p1 p2 p3 p4 p5 : Pos} {ar : Arg} {rest : List Stmt}
    (S : SupF K P C f cc F) (S1 : NScope N ps ["__class__"] F.scope) (hbd : F.body = .Expr (.Call (.Attribute (.Call (.Name "super" p0) [] [] p1) "__init__" p2) [.Constant (.str m) j p3] [] p4) p5 :: rest)
    (hmg : mg "super" = none) (har : (F.params.posonlyargs ++ F.params.args).head? = some ar) (hN0 : N[0]? = some ar.arg) (hloc : F.scope.names.lookup ar.arg = some .local)
    (hks : F.scope.names.lookup ("super" : Str) = some .globalImplicit) (len : ∀ vs H Q E, sp vs H Q E → vs.length = ps.length) (hps : 0 < ps.length)
    (self : ∀ vs H Q E, sp vs H Q E → ∃ a, vs[0]? = some (.ref a) ∧ H a = some (exo a C none))
    (hi : ∀ L, interactive (envF F f L) = false) (hsw : ∀ L, swapsWith (.Call (.Attribute (.Call (.Name "super" p0) [] [] p1) "__init__" p2) [.Constant (.str m) j p3] [] p4) none p5.line (envF F f L) = pure false)
    {pl : Addr → Sem Bool} (hev : ∀ L, eval (.Call (.Attribute (.Call (.Name "super" p0) [] [] p1) "__init__" p2) [.Constant (.str m) j p3] [] p4) (envF F f L) = (do
      let ov ← attributeBase (.Call (.Name "super" p0) [] [] p1) "__init__" (envF F f L) (eval (.Call (.Name "super" p0) [] [] p1) (envF F f L))
      standAt p2.atName
      let (f', first) ← holding [ov] (getMethod ov "__init__" (pl L))
      callWith p4 f' first (backTo p4 (starEach [.Constant (.str m) j p3] (envF F f L))) []))
    (hbind : ∀ (doc pm ctv : Value) (us : List Value), us.length = ps.length → bindArgs (F.fd doc pm ctv) ⟨us, []⟩ = pure (ps.zip us))
    (hbody : ∀ (A : Around) (outer : List Env) (s : Shared) (H : Hp) (vs : List V) (Q : VK) (E : XK), Room k (A.deeper (envF F f s.heap.objs.size)) → sp vs H Q E →
      ∃ t, PSs (ncx CX P w K mg base N F f A outer s H E) rest t ∧ t { nx := fun _ H' => Q .non H', rt := Q } (startF N vs [none]) H) :
    ∃ fd, FnOk P w K mg base CX (k + 1) f fd ps sp ∧ Binds K fd ps [] := by
  obtain ⟨od, doc, pm, ctv, osl, lk⟩ := S.fn
  obtain ⟨c1, c2, c3, hcell⟩ := S.cell
  refine ⟨F.fd doc pm ctv, ⟨len, fun A outer s H args us vs Q E hr e0 hb r hsp => ?_⟩, fun s us X hl => ?_⟩
  · have hl := len _ _ _ _ hsp
    have KX : K.In s.heap := e0.mod.kin.keeps fun b o e => (e0.bs b o e).1
    have lim : s.heap.NoLimit := e0.mod.nolimit.keeps fun b o e => (e0.bs b o e).1
    refine codeAny_call_function hr.depth (KX _ _ lk) rfl S1.co S1.gen rfl (PySem.W.codeRec_of KX S.code) (hb _ _ _ _ ?_)
    refine wpAny_newFunctionEnv S1.nocell (fun ⟨n, _⟩ hy => S1.par n (List.of_mem_zip hy).1) (fun h₁ hns hsb => ⟨lim.fresh _ hsb, ?_⟩) S1.kind
    show codeAny _ _ (.func F.body (envF F f s.heap.objs.size)) _ _
    refine ks_codeAny_funcAt ?_
    have kp : ∀ b o, s.heap.get? b = some o → h₁.get? b = some o := fun b o e => hsb.extBut b o (Nat.ne_of_lt (Heap.lt_size e)) (Heap.get?_push_of_some _ e)
    obtain ⟨t, ht, hq⟩ := hbody A outer s H vs Q E (hr.deeper _) hsp
    have hcl : base.get? cc = some (⟨c1, c2, .cell (some (.ref C)), c3⟩ : Obj) := e0.mod.kin _ _ hcell
    have CA : CellsAt F.cl ["__class__"] [none] s.heap H := by
      refine ⟨rfl, fun y c e => ?_, fun x y c h1 h2 => ?_, fun i y hi => ?_⟩
      · rw [S.cl] at e
        have : y = "__class__" ∧ c = cc := by
          by_cases hy : y = ("__class__" : Str)
          · subst hy; rw [List.lookup_cons_self] at e; exact ⟨rfl, (Option.some.inj e).symm⟩
          · have : (y == ("__class__" : Str)) = false := by simpa using hy
            rw [List.lookup_cons, this] at e; cases e
        rw [this.2]
        exact ⟨(e0.bs _ _ hcl).2, some (.ref C), _, (e0.bs _ _ hcl).1, rfl⟩
      · rw [S.cl] at h1 h2
        have key : ∀ {x : Str} {c : Addr}, [(("__class__" : Str), cc)].lookup x = some c → x = "__class__" := fun {x c} e => by
          by_cases hy : x = ("__class__" : Str)
          · exact hy
          · have : (x == ("__class__" : Str)) = false := by simpa using hy
            rw [List.lookup_cons, this] at e; cases e
        rw [key h1, key h2]
      · cases i with
        | zero =>
          have : y = ("__class__" : Str) := (Option.some.inj hi).symm
          subst this
          exact ⟨cc, by rw [S.cl]; rfl, fun v hv => by cases hv⟩
        | succ i => simp at hi
    have I : Inv (ncx CX P w K mg base N F f A outer s H E) [] (startF N vs [none]) H { s with heap := h₁, toks := s.toks + (ps.zip us).length } := inv_startN S1 hr.hd e0 hl r CA hns kp
    have fin : ∀ {σ' : L2.St} {H' : Hp} {v : V} {u : Value} {s' : Shared}, Inv (ncx CX P w K mg base N F f A outer s H E) [] σ' H' s' → L2.RelV v u → Q v H' → CE outer P w H s Q u s' :=
      fun {σ' H' v u s'} J rv q => ⟨v, H', J.os, J.bare, J.base, J.hok, rv, q⟩
    obtain ⟨a, h0, ea⟩ := self _ _ _ _ hsp
    have h0' : (startF N vs [none])[0]? = some (some (.ref a)) := by
      unfold startF
      have : 0 < vs.length := by omega
      rw [List.getElem?_append_left (by rw [List.length_map]; exact this), List.getElem?_map, h0]; rfl
    have hx : execs F.body (envF F f s.heap.objs.size) = execs (.Expr (.Call (.Attribute (.Call (.Name "super" p0) [] [] p1) "__init__" p2) [.Constant (.str m) j p3] [] p4) p5 :: rest) (envF F f s.heap.objs.size) := by rw [hbd]
    rw [hx]
    refine ks_wpAt_execs_cons (super_step (ar := ar) S I hmg har hN0 hloc hks (S1.frk _ (List.mem_singleton.mpr rfl)) S1.kind (hi _) (hsw _) (hev _) h0' ea fun s' J => ?_)
    refine wpAt_of_wpAny (wpAny_mono (ht.run [] _ (startF N vs [none]) H _ J hq) (fun fl s' hs => ?_) fun e s' hs => hs)
    cases fl with
    | ret u =>
      obtain ⟨v, σ', H', J, rv, q⟩ := hs
      exact fin J rv q
    | next =>
      obtain ⟨σ', H', J, q⟩ := hs
      exact fin (v := V.non) (u := Value.none) J rfl q
    | brk =>
      obtain ⟨_, _, _, q⟩ := hs
      exact False.elim q
    | cont =>
      obtain ⟨_, _, _, q⟩ := hs
      exact False.elim q
  · rw [List.append_nil] at hl ⊢
    intro M A Q E q
    rw [hbind doc pm ctv us hl]
    exact wpAny_pure q
end Fy

set_option Elab.async false
set_option linter.all false
set_option maxRecDepth 100000
set_option maxHeartbeats 4000000
namespace Fy
open PySem PySem.Spec PyProof.Rows L2 L2H
/-! ### a caught exception handed to a def -/
structure FnE (P : Program) (w : World) (K : PySem.W.Frag) (mg : Str → Option Value) (base : Heap) (k : Nat) (f : Addr) (fd : FuncData) (ps : List Str) (sp : Addr × Obj → List V → Hp → VK → Prop) : Prop where
  len : ∀ p vs H Q, sp p vs H Q → vs.length = ps.length
  run : ∀ (A : Around) (outer : List Env) (s : Shared) (H : Hp) (args : Args) (us : List Value) (vs : List V) (Q : VK) (p : Addr × Obj), RoomH k A → PinOk outer H s p → Env0 P w K mg base A outer s H → BindsTo s fd args (ps.zip us) → Vals vs us → sp p vs H Q →
    codeAny (model P w) A (.call (.ref f) args) (CR CX0 outer P w H s Q E0) s
theorem fn_ofE {P : Program} {w : World} {K : PySem.W.Frag} {mg : Str → Option Value} {base : Heap} {k : Nat} {f : Addr} {name qual : Str} {params : Arguments} {body : List Stmt} {scope : Scope} {dV kV doc pm cdv ct oc : Value} {an od : Option Addr}
    {osl : Array (Option Value)} {N ps : List Str} {sp : Addr × Obj → List V → Hp → VK → Prop} (lk : K.lookup f = some ⟨oc, od, .func (PySem.W.fnOf name qual params body scope dV kV doc pm an cdv ct), osl⟩) (hcd : PySem.W.codeIn K cdv qual = true) (S : FnScope N ps scope)
    (len : ∀ p vs H Q, sp p vs H Q → vs.length = ps.length)
    (hbody : ∀ (A : Around) (outer : List Env) (s : Shared) (H : Hp) (vs : List V) (Q : VK) (p : Addr × Obj), RoomH k (A.deeper (envOfC qual scope s.heap.objs.size f cdv)) → sp p vs H Q →
      ∃ t, PSs (cxH CX0 P w K mg base N qual scope f cdv A outer s H E0 p) body t ∧ t { nx := fun _ H' => Q .non H', rt := Q } (L2.start N vs) H) :
    FnE P w K mg base (k + 1) f (PySem.W.fnOf name qual params body scope dV kV doc pm an cdv ct) ps sp := by
  refine ⟨len, fun A outer s H args us vs Q p hr hpin e0 hb r hsp => ?_⟩
  have hl := len _ _ _ _ hsp
  have KX : K.In s.heap := e0.mod.kin.keeps fun b o e => (e0.bs b o e).1
  have lim : s.heap.NoLimit := e0.mod.nolimit.keeps fun b o e => (e0.bs b o e).1
  have hkind : ∀ y ∈ ps.zip us, scope.names.lookup y.1 = some .local ∨ (scope.names.lookup y.1 = some .cell ∧ ((cellsFrom (s.heap.objs.size + 1) scope.names []).lookup y.1).isSome = true) := fun ⟨n, v⟩ hy => by
    rcases S.par n (List.of_mem_zip hy).1 with q | q
    · exact .inl q
    · exact .inr ⟨q, PySem.W.cellsFrom_some _ _ _ (.inl q)⟩
  refine codeAny_call_function hr.depth (KX _ _ lk) rfl S.co S.gen rfl (PySem.W.codeRec_of KX hcd) (hb _ _ _ _ ?_)
  refine wpAny_newFunctionEnv_cells S.kind hkind fun env he s1 x => ?_
  subst he
  refine ⟨lim.keeps x.toInCall.keep, codeAny_func ?_⟩
  obtain ⟨t, ht, hq⟩ := hbody A outer s H vs Q p (hr.deeper _) hsp
  have I : Inv (cxH CX0 P w K mg base N qual scope f cdv A outer s H E0 p) [] (L2.start N vs) H s1 := inv_startH S hpin e0 hl r x
  refine wpAny_mono (ht.run [] s1 (L2.start N vs) H _ I hq) (fun fl s' hs => ?_) fun e s' hs => hs
  have fin : ∀ {σ' : L2.St} {H' : Hp} {v : V} {u : Value}, Inv (cxH CX0 P w K mg base N qual scope f cdv A outer s H E0 p) [] σ' H' s' → RelV v u → Q v H' → CE outer P w H s Q u s' :=
    fun {σ' H' v u} J rv q => ⟨v, H', J.os, J.bare, J.base, J.hok, rv, q⟩
  cases fl with
  | ret u =>
    obtain ⟨v, σ', H', J, rv, q⟩ := hs
    exact fin J rv q
  | next =>
    obtain ⟨σ', H', J, q⟩ := hs
    exact fin (v := V.non) (u := Value.none) J rfl q
  | brk =>
    obtain ⟨_, _, _, q⟩ := hs
    exact False.elim q
  | cont =>
    obtain ⟨_, _, _, q⟩ := hs
    exact False.elim q
structure HasE (P : Program) (w : World) (K : PySem.W.Frag) (mg : Str → Option Value) (base : Heap) (k : Nat) (f : Addr) (ps : List Str) (sp : Addr × Obj → List V → Hp → VK → Prop) : Prop where
  ex : ∃ fd, FnE P w K mg base k f fd ps sp ∧ Binds K fd ps []
  kp : PySem.W.keepIn K (.ref f) = true
theorem hasE_of {P : Program} {w : World} {K : PySem.W.Frag} {mg : Str → Option Value} {base : Heap} {x qual : Str} {st : Stmt} {f : Addr} {N ps : List Str} {k : Nat} {sp : Addr × Obj → List V → Hp → VK → Prop} (F : DefF K x qual st f) (S : FnScope N ps (defScope st))
    (bd : ∀ (kV doc pm : Value) (an : Option Addr) (cdv ct : Value) (us : List Value), us.length = ps.length → bindArgs (PySem.W.fnOf x qual (defArgs st) (defBody st) (defScope st) .none kV doc pm an cdv ct) ⟨us, []⟩ = pure (ps.zip us))
    (len : ∀ p vs H Q, sp p vs H Q → vs.length = ps.length)
    (hbody : ∀ (cdv : Value) (A : Around) (outer : List Env) (s : Shared) (H : Hp) (vs : List V) (Q : VK) (p : Addr × Obj), RoomH k (A.deeper (envOfC qual (defScope st) s.heap.objs.size f cdv)) → sp p vs H Q →
      ∃ t, PSs (cxH CX0 P w K mg base N qual (defScope st) f cdv A outer s H E0 p) (defBody st) t ∧ t { nx := fun _ H' => Q .non H', rt := Q } (L2.start N vs) H) : HasE P w K mg base (k + 1) f ps sp := by
  obtain ⟨fd, F⟩ := F
  obtain ⟨oc, od, dV, kV, doc, pm, an, cdv, ct, osl, rfl, lk, hcd, hD, hK⟩ := id F.ex
  exact ⟨⟨_, fn_ofE lk hcd S len fun A outer s H vs Q p hr hsp => hbody cdv A outer s H vs Q p hr hsp, F.bindsN bd⟩, F.kp⟩
section
variable {X : Cx} {k : Nat} {f : Addr} {ps : List Str} {sp : Addr × Obj → List V → Hp → VK → Prop} {x : Str} {q pos : Pos} {e : Expr} {es : List Expr} {t : TA} {p : Addr × Obj}
/-- f(e, ..) within a suite whose exception is p's -/
theorem pe_cE (F : HasE X.prog X.w X.K X.mg X.base k f ps sp) (hr : RoomH k X.A) (hp : p ∈ X.pn) (hm : X.mg x = some (.ref f)) (ha : PA X (e :: es) t) (hg : Gl X x := by rfl)
    (hdb : (x == ("__debug__" : Str)) = false := by decide) (he : starEach (e :: es) X.env = (false, eval e X.env) :: starEach es X.env := by rfl) (hpl : (backTo pos (starEach es X.env)).any (·.1) = false := by rfl) :
    PE X (.Call (.Name x q) (e :: es) [] pos) (fun σ H Q => t σ H fun vs H1 => sp p vs H1 Q) := by
  refine ⟨fun pins s σ H Q I h => ?_⟩
  obtain ⟨fd, F1, hb⟩ := F.ex
  refine wpAny_Call_Name_kw (ld_glob I hg hm ?_ hdb)
  refine PySem.W.callWith_K (h₀ := X.base) I.ok.mod.kin F.kp (thn (ha.run pos pins s σ H _ I h) fun us s1 ⟨vs, H1, I1, r, q⟩ => ⟨I1.kIn, ?_⟩) he hpl
  show wpAny _ _ (call (.ref f) us) _ _ _
  have hl : us.length = ps.length := by rw [← r.length]; exact F1.len _ _ _ _ q
  have b := hb s1 us I1.kIn (by rw [List.append_nil]; exact hl)
  rw [List.append_nil] at b
  have P1 := I1.pin p (List.mem_append_left _ hp)
  have hpin : PinOk X.stack H1 s1 p := ⟨P1.1, P1.2.1, fun hm => (List.mem_cons.mp (I1.stkSub p.1 hm)).elim P1.2.2.1 P1.2.2.2.1, P1.2.2.2.2⟩
  refine wpAny_call (codeAny_mono (F1.run X.A X.stack s1 H1 ⟨us, []⟩ us vs Q p hr hpin I1.env0 b r q) fun r s' hq => ?_)
  cases r with
  | error e => exact pass0 pins σ H1 s1 e s' I1 hq
  | ok fl =>
    cases fl with
    | ret u => exact I1.after hq
    | next => exact False.elim hq
    | brk => exact False.elim hq
    | cont => exact False.elim hq
end
/-! ### asking the exception that is held -/
/-- the exception's dict, if it has one, is tracked -/
def XdAt (d : Option Addr) (H : Hp) : Prop := ∀ dd, d = some dd → ∃ fs, H dd = some (.xd fs)
theorem inst_of {X : Cx} {pins : List (Addr × Obj)} {σ : L2.St} {H : Hp} {s : Shared} {a D : Addr} {oe : Obj} {d : Option Addr} (I : Inv X pins σ H s) (hp : (a, oe) ∈ X.pn) (hz : Zc (.ref D) d oe) (hf : ∃ vs, oe.data = .fields vs) (hd : XdAt d H) :
    ∃ od, PySem.W.InstAt s.heap a oe D od := by
  obtain ⟨hget, _⟩ := I.pin (a, oe) (List.mem_append.mpr (.inl hp))
  obtain ⟨vs, hv⟩ := hf
  cases d with
  | none =>
    refine ⟨none, ?_⟩
    obtain ⟨oc, od, oda, osl⟩ := oe
    obtain ⟨h1, h2⟩ := hz
    dsimp only at h1 h2 hv
    subst h1 h2 hv
    exact ⟨hget, rfl, rfl, trivial⟩
  | some dd =>
    obtain ⟨fs, hx⟩ := hd dd rfl
    obtain ⟨mA, hns, hr⟩ := (show ObjOk X.prog X.w H s.heap dd (.xd fs) from I.hok dd _ hx)
    obtain ⟨od, ho, hl⟩ := lookIn_ns hns
    exact ⟨some od, hget, hz.1, by unfold PySem.W.notCls; rw [hv] <;> rfl, by rw [hz.2]; exact ho⟩
theorem call_isX {X : Cx} {a D : Addr} {oe : Obj} {d : Option Addr} (C : ExcC X.K D) (hp : (a, oe) ∈ X.pn) (hz : Zc (.ref D) d oe) (hf : ∃ vs, oe.data = .fields vs) :
    CallR X (.builtin "isinstance") (fun xs H Q => ∃ (c : V) (cv : Value) (b : Bool), xs = [.ref a, c] ∧ (∀ u, RelV c u → u = cv) ∧ PySem.W.kitOne X.K (.ref D) cv = some b ∧ XdAt d H ∧ Q (.bl b) H) := by
  intro pins s σ H xs us Q I r h
  obtain ⟨c, cv, b, rfl, hcv, e, hd, q⟩ := h
  cases r with
  | cons rx rr =>
    cases rr with
    | cons rt rr =>
      cases rr
      cases rx
      have ec := hcv _ rt
      subst ec
      obtain ⟨od, J⟩ := inst_of I hp hz hf hd
      have hcl : (PySem.W.clsIn X.K D).isSome = true := by
        obtain ⟨cd, hc, _⟩ := PySem.W.any_some C.hd
        rw [hc]; rfl
      exact PySem.W.kia_one (PySem.W.kitx_exc hcl C.hg C.hk C.hs C.ha C.hn C.ht C.hm) I.kIn J e (fun z => nomatch z) fun tk => ⟨.bl b, H, I.kept (t' := tk) fun _ _ z => z, rfl, q⟩
/-- e.n, e the exception that is held -/
theorem pe_xfX {X : Cx} {a C : Addr} {oe : Obj} {d : Option Addr} {e : Expr} {te : TE} {pos : Pos} {n : Str} (T : XfC X.K C) (hno : PySem.W.findIn X.K (.ref C) n = some none) (hp : (a, oe) ∈ X.pn)
    (hz : Zc (.ref C) d oe) (hf : ∃ vs, oe.data = .fields vs) (he : PE X e te) (hb : attributeBase e n X.env (eval e X.env) = eval e X.env := by rfl) :
    PE X (.Attribute e n pos) (fun σ H Q => te σ H fun x H1 => x = .ref a ∧ ∃ (dd : Addr) (fs : List (Str × V)) (v : V), d = some dd ∧ H1 dd = some (.xd fs) ∧ fs.lookup n = some v ∧ Q v H1) := by
  refine ⟨fun pins s σ H Q I h => ?_⟩
  refine attr_of hb (thn (he.run pins s σ H _ I h) fun u s1 hh => ?_)
  obtain ⟨x, H1, I1, rx, ex, dd, fs, v, ed, ea, l, q⟩ := hh
  subst ex
  obtain rfl : u = Value.ref a := rx
  subst ed
  obtain ⟨ha, _⟩ := I1.pin (a, oe) (List.mem_append_left _ hp)
  obtain ⟨vs, hd⟩ := hf
  obtain ⟨mA, hns, hr⟩ := (show ObjOk X.prog X.w H1 s1.heap dd (.xd fs) from I1.hok dd _ ea)
  obtain ⟨od, ho, hl⟩ := lookIn_ns hns
  obtain ⟨u, hu, ru⟩ := RelO.some_of (v := v) (o := mA n) (by rw [← l]; exact hr n)
  have J : PySem.W.InstAt s1.heap a oe C (some od) := ⟨ha, hz.1, by unfold PySem.W.notCls; rw [hd] <;> rfl, by rw [hz.2]; exact ho⟩
  exact PySem.HandSPX.exc_get I1.kIn J T.ga T.gg T.exC (PySem.W.findObj_own T.hdC hno rfl (by rw [hl, hu])) (handed_of ru) ⟨v, H1, I1.tok _, ru, q⟩
/-! ### raising -/
section
variable {X : Cx} {W : WX} {x m : Str} {C f : Addr} {j k : Nat} {p p2 pos pos2 : Pos} {e : Expr} {es : List Expr} {ps : List Str} {sp : Sp} {ta : TA}
/-- raise X('m'), X an own class without __init__ -/
theorem ps_rP (hc : X.calm = true) (tk : Takes X W) (h : PySem.W.excIn X.K C [.type "ValueError", .type "Exception", .type "BaseException", .type "object"] "ValueError.__new__" = true ∧ PySem.W.keepIn X.K (.ref C) = true ∧ PySem.W.subIn X.K (.ref C) (.type "BaseException") = some true ∧ PySem.W.typeIn X.K (.ref C) = some (.type "type"))
    (gC : X.mg x = some (.ref C)) (hg : Gl X x := by rfl) (hdb : (x == ("__debug__" : Str)) = false := by decide) : PS X (.Raise (some (.Call (.Name x p) [.Constant (.str m) j p2] [] pos)) none pos2) (fun _ σ H => W (.ref C) none σ H) :=
  ps_raise hc tk (pmk_own PySem.F.excBase_ValueError h.1 gC h.2.1 (raises_own h.2.2.1 h.2.2.2) hg hdb)
/-- raise X(e, ..), X an own class with an own __init__ -/
theorem ps_rO (hc : X.calm = true) (tk : Takes X W) (T : OexC X.K C) (iC : PySem.W.findIn X.K (.ref C) "__init__" = some (some (.ref f))) (tI : PySem.W.typeIn X.K (.ref f) = some (.type "function")) (h : ∃ fd, FnOk X.prog X.w X.K X.mg X.base CX0 k f fd ps sp ∧ Binds X.K fd ps []) (hr : Room (k + 1) X.A)
    (gC : X.mg x = some (.ref C)) (ha : PA X (e :: es) ta) (hg : Gl X x := by rfl) (hdb : (x == ("__debug__" : Str)) = false := by decide) (he : starEach (e :: es) X.env = (false, eval e X.env) :: starEach es X.env := by rfl) (hpl : (backTo pos (starEach es X.env)).any (·.1) = false := by rfl) :
    PS X (.Raise (some (.Call (.Name x p) (e :: es) [] pos)) none pos2) (fun _ σ H => tMkO C sp [] ta σ H fun cls d H' => W cls d σ H') := by
  obtain ⟨fd, F1, hb⟩ := h
  exact ps_raise hc tk (pmk_oex T iC tI F1 hr hb .nil (fun _ _ _ _ _ _ _ z => z.elim) hg gC ha hdb he hpl)
end
section
variable {X : Cx} {CX : CXT} {k : Nat} {f C : Addr} {ps : List Str} {sp : Sp} {E : L2.St → XK} {x m : Str} {p pos apos : Pos} {e o : Expr} {es : List Expr} {ta : TE} {t : TA}
/-- f(e, ..), o.m(e, ..): what may be let out hangs on the slots -/
theorem pe_cS (h : Has X.prog X.w X.K X.mg X.base CX k f ps sp) (hr : Room k X.A) (hm : X.mg x = some (.ref f)) (hx : ∀ σ, PassesAt CX X σ (E σ)) (ha : PA X (e :: es) t) (hg : Gl X x := by rfl)
    (hdb : (x == ("__debug__" : Str)) = false := by decide) (he : starEach (e :: es) X.env = (false, eval e X.env) :: starEach es X.env := by rfl) (hpl : (backTo pos (starEach es X.env)).any (·.1) = false := by rfl) :
    PE X (.Call (.Name x p) (e :: es) [] pos) (tCallS sp E t) := by
  obtain ⟨fd, F, b⟩ := h.ex
  exact pe_callS F hr hg hm h.kp b hx ha hdb he hpl
def tMtS (C : Addr) (m : Str) (sp : Sp) (E : L2.St → XK) (ta : TE) (t : TA) : TE := fun σ H Q => ta σ H fun x H1 => ∃ a dx fs, x = .ref a ∧ H1 a = some (.ins C dx fs) ∧ fs.lookup m = none ∧ t σ H1 fun vs H2 => sp (x :: vs) H2 Q (E σ)
theorem pe_mtS {pl : Sem Bool} (he : PE X o ta) (c : Cls X.K C) (hm : Meth X.K C m f) (h : Has X.prog X.w X.K X.mg X.base CX k f ps sp) (hr : Room k X.A) (hx : ∀ σ, PassesAt CX X σ (E σ)) (ha : PA X (e :: es) t)
    (hst : starEach (e :: es) X.env = (false, eval e X.env) :: starEach es X.env := by rfl) (hpl : (backTo pos (starEach es X.env)).any (·.1) = false := by rfl)
    (ht : eval (.Call (.Attribute o m apos) (e :: es) [] pos) X.env = (do
      let ov ← eval o X.env
      standAt apos.atName
      let (f, first) ← holding [ov] (getMethod ov m pl)
      callWith pos f first (backTo pos (starEach (e :: es) X.env)) (backToKw pos (keywordEach [] X.env))) := by rfl) :
    PE X (.Call (.Attribute o m apos) (e :: es) [] pos) (tMtS C m sp E ta t) := by
  obtain ⟨fd, F, b⟩ := h.ex
  refine ⟨fun pins s σ H Q I h => ?_⟩
  refine PySem.W.methodCall_KW (pl := pl) (thn (he.run pins s σ H _ I h) fun u s1 ⟨x, H1, I1, rx, a, dx, fs, ex, ea, l, q⟩ => ?_) ht
  subst ex
  obtain rfl : u = Value.ref a := rx
  refine getmeth_ok I1 ea c hm l ?_
  refine PySem.W.callWith_K (first := [.ref a]) (h₀ := X.base) I.ok.mod.kin hm.kp (thn (ha.run pos pins s1 σ H1 _ I1 q) fun us s2 ⟨vs, H2, I2, r, q2⟩ => ⟨I2.kIn, ?_⟩) hst hpl
  exact run_fnS (us := .ref a :: us) (vs := .ref a :: vs) F hr b (hx σ) I2 (.cons rfl r) q2
end
section
variable {P : Program} {w : World} {K : PySem.W.Frag} {mg : Str → Option Value} {base : Heap}
/-- a def that may raise -/
theorem has_ofX {x qual : Str} {st : Stmt} {f : Addr} {N ps : List Str} {k : Nat} {sp : Sp} (F : DefF K x qual st f) (S : FnScope N ps (defScope st))
    (bd : ∀ (kV doc pm : Value) (an : Option Addr) (cdv ct : Value) (us : List Value), us.length = ps.length → bindArgs (PySem.W.fnOf x qual (defArgs st) (defBody st) (defScope st) .none kV doc pm an cdv ct) ⟨us, []⟩ = pure (ps.zip us))
    (len : ∀ vs H Q E, sp vs H Q E → vs.length = ps.length)
    (hbody : ∀ (cdv : Value) (A : Around) (outer : List Env) (s : Shared) (H : Hp) (vs : List V) (Q : VK) (E : XK), Room k (A.deeper (envOfC qual (defScope st) s.heap.objs.size f cdv)) → sp vs H Q E →
      ∃ t, PSs (cxOf (L2.CX P w) P w K mg base N qual (defScope st) f cdv A outer s H E) (defBody st) t ∧ t { nx := fun _ H' => Q .non H', rt := Q } (L2.start N vs) H) : Has P w K mg base (L2.CX P w) (k + 1) f ps sp := by
  obtain ⟨fd, F⟩ := F
  exact ⟨⟨fd, F.ok S len fun cdv A outer s H vs Q E hr h => hbody cdv A outer s H vs Q E hr h, F.bindsN bd⟩, F.kp⟩
end
/-- what a callee lets out leaves -/
theorem pX {P : Program} {w : World} {K : PySem.W.Frag} {mg : Str → Option Value} {base : Heap} {N : List Str} {qual : Str} {scope : Scope} {f : Addr} {cdv : Value} {A : Around} {outer : List Env} {s : Shared} {H : Hp} {E : XK} :
    Passes (L2.CX P w) (cxOf (L2.CX P w) P w K mg base N qual scope f cdv A outer s H E) E := passes_call (takes_of rfl rfl rfl rfl) (fun _ _ _ _ z => z)
section
variable {X : Cx} {CX : CXT} {k : Nat} {f C : Addr} {ps : List Str} {sp : Sp} {E : XK}
theorem op_inH (M : Meth X.K C "__contains__" f) (h : Has X.prog X.w X.K X.mg X.base CX k f ps sp) (hr : Room k X.A) (hx : Passes CX X E) : OpR X (compareOp .In) (rInOwn C sp false E) := by
  obtain ⟨fd, F, b⟩ := h.ex
  exact op_inOwn ⟨M.at_, M.fn⟩ F hr b hx
theorem op_notInH (M : Meth X.K C "__contains__" f) (h : Has X.prog X.w X.K X.mg X.base CX k f ps sp) (hr : Room k X.A) (hx : Passes CX X E) : OpR X (compareOp .NotIn) (rInOwn C sp true E) := by
  obtain ⟨fd, F, b⟩ := h.ex
  exact op_notInOwn ⟨M.at_, M.fn⟩ F hr b hx
end
end Fy

set_option Elab.async false
set_option linter.all false
set_option maxRecDepth 100000
set_option maxHeartbeats 4000000
namespace Fy
open PySem PySem.Spec PyProof.Rows L2 NdefX
/-! ### the head, with facts of own exceptions -/
/-- OexC as a test -/
def oexB (K : PySem.W.Frag) (C : Addr) : Bool := (match K.lookup C with
  | some ⟨.type "type", _, .cls cd, sl⟩ => (match cd.mro, sl.toList with
    | .ref C' :: bm, [_, _, _, _, some (.builtin n), _] => C' == C && n == "ValueError.__new__" && !cd.hasDel && cd.hasDict && PySem.HandSPX.refsVE bm
    | _, _ => false)
  | _ => false) && (He.eqO (PySem.W.findIn K (.ref C) "__setattr__") (some (some (.builtin "object.__setattr__"))) && (decide (PySem.W.subIn K (.ref C) (.type "BaseException") = some true) && (decide (PySem.W.typeIn K (.ref C) = some (.type "type")) && PySem.W.keepIn K (.ref C))))
theorem oexB_ok {K : PySem.W.Frag} {C : Addr} (h : oexB K C = true) : OexC K C := by
  obtain ⟨h1, h⟩ := He.ba h
  obtain ⟨h2, h⟩ := He.ba h
  obtain ⟨h3, h⟩ := He.ba h
  obtain ⟨h4, h5⟩ := He.ba h
  refine ⟨?_, He.eqO_ok h2, of_decide_eq_true h3, of_decide_eq_true h4, h5⟩
  split at h1
  · rename_i dd cd sl ho
    split at h1
    · rename_i C' bm k0 k1 k2 k3 n k5 hm hs
      simp only [Bool.and_eq_true, beq_iff_eq, Bool.not_eq_true'] at h1
      obtain ⟨⟨⟨⟨rfl, rfl⟩, hdel⟩, hdict⟩, hve⟩ := h1
      obtain ⟨nm, bs, mro, ns, qn, hd, sn, sub, ab, col, del⟩ := cd
      dsimp only at hm hdel hdict
      subst hm hdel hdict
      have hsl : sl = #[k0, k1, k2, k3, some (.builtin "ValueError.__new__"), k5] := by
        obtain ⟨l⟩ := sl
        simp only at hs
        rw [hs]
      subst hsl
      exact ⟨nm, qn, ns, bs, bm, sn, sub, ab, col, dd, k0, k1, k2, k3, k5, ho, hve⟩
    · cases h1
  · cases h1
/-- ExcC as a test -/
def exgB (K : PySem.W.Frag) (D : Addr) : Bool := He.eqO (PySem.W.findIn K (.ref D) "__getattribute__") (some (some (.builtin "BaseException.__getattribute__"))) && (He.eqO (PySem.W.findIn K (.ref D) "__getattr__") (some none) && (decide (PySem.W.subIn K (.ref D) (.type "BaseException") = some true) && (PySem.W.hasDictIn K D &&
  (He.eqO (PySem.W.findIn K (.ref D) "__class__") (some (some (.builtin "object.__class__"))) && (He.eqO (PySem.W.specialIn K (.builtin "object.__class__") "__get__") (some (some (.builtin "getset_descriptor.__get__"))) && (decide (PySem.W.takesIn K (.builtin "object.__class__") = some true) && decide (PySem.W.mroIn K D (.type "object") = some true)))))))
theorem exgB_ok {K : PySem.W.Frag} {D : Addr} (h : exgB K D = true) : ExcC K D := by
  obtain ⟨h1, h⟩ := He.ba h
  obtain ⟨h2, h⟩ := He.ba h
  obtain ⟨h3, h⟩ := He.ba h
  obtain ⟨h4, h⟩ := He.ba h
  obtain ⟨h5, h⟩ := He.ba h
  obtain ⟨h6, h⟩ := He.ba h
  obtain ⟨h7, h8⟩ := He.ba h
  exact ⟨He.eqO_ok h1, He.eqO_ok h2, of_decide_eq_true h3, h4, He.eqO_ok h5, He.eqO_ok h6, of_decide_eq_true h7, of_decide_eq_true h8⟩
theorem exgB_xf {K : PySem.W.Frag} {D : Addr} (c : ExcC K D) : XfC K D := ⟨c.hg, c.hk, c.hs, c.hd⟩
/-! an __init__ with the cell of its class -/
def ccAt (K : PySem.W.Frag) (f : Addr) : Addr := match K.lookup f with
  | some ⟨_, _, .func fd, _⟩ => (match fd.closure with
    | [(_, c)] => c
    | _ => 0)
  | _ => 0
def cdAt (K : PySem.W.Frag) (f : Addr) : Addr := match K.lookup f with
  | some ⟨_, _, .func fd, _⟩ => (match fd.code with
    | .ref c => c
    | _ => 0)
  | _ => 0
abbrev FnS : Type := Option (Str × Str × Arguments × FuncBody × Scope × Addr × List Str × Value × Value × Option Addr × Addr)
def fnS (K : PySem.W.Frag) (f : Addr) : FnS := match K.lookup f with
  | some ⟨.type "function", _, .func fd, _⟩ => some (fd.name, fd.qualname, fd.params, fd.body, fd.scope, fd.globals, fd.closure.map (·.1), fd.defaults, fd.kwdefaults, fd.annotations, fd.builtins)
  | _ => none
/-- one such: its class, its qualified name, parameters, body, scope -/
structure DefS where
  cls : Str
  qual : Str
  params : Arguments
  body : List Stmt
  scope : Scope
abbrev DefS.at_ (d : DefS) (K : PySem.W.Frag) : Addr := He.ma K (He.ga K d.cls) "__init__"
def DefS.val (d : DefS) : FnS := some ("__init__", d.qual, d.params, .stmts d.body, d.scope, mainGlobals, ["__class__"], .none, .none, none, builtinsNs)
def DefS.F (d : DefS) (K : PySem.W.Frag) : NF := ⟨"__init__", d.qual, d.params, d.body, d.scope, [("__class__", ccAt K (d.at_ K))], cdAt K (d.at_ K)⟩
def codeRefB (K : PySem.W.Frag) (f : Addr) : Bool := match K.lookup f with
  | some ⟨_, _, .func fd, _⟩ => (match fd.code with
    | .ref _ => true
    | _ => false)
  | _ => false
def fileB (K : PySem.W.Frag) (c : Addr) (file : Str) : Bool := match K.lookup c with
  | some ⟨_, _, .fields vs, _⟩ => (match (vs[2]? : Option Value) with
    | some (.str x _) => decide (x = file)
    | _ => false)
  | _ => false
def cellB (K : PySem.W.Frag) (c C : Addr) : Bool := match K.lookup c with
  | some ⟨_, _, .cell (some (.ref D)), _⟩ => decide (D = C)
  | _ => false
def DefS.ok (P : Program) (K : PySem.W.Frag) (d : DefS) : Bool := oexB K (He.ga K d.cls) && (codeRefB K (d.at_ K) && (cellB K (ccAt K (d.at_ K)) (He.ga K d.cls) && (PySem.W.codeIn K (.ref (cdAt K (d.at_ K))) d.qual && (fileB K (cdAt K (d.at_ K)) P.main.file && (decide ((P.main.scope.names.lookup ("super" : Str)).isSome = false) &&
  (He.eqO (PySem.W.ks_superIn K (He.ga K d.cls) (He.ga K d.cls) "__init__") (some (some (.builtin "ValueError.__init__"))) && (He.eqO (PySem.W.nsIn K cStatics "thirdparty.any") (some none) && (decide (PySem.W.subIn K (.ref (He.ga K d.cls)) (.type "ValueError") = some true) && (decide (PySem.W.mroIn K (He.ga K d.cls) (.ref (He.ga K d.cls)) = some true) &&
  (He.eqO (PySem.W.findIn K (.ref (He.ga K d.cls)) "__init__") (some (some (.ref (d.at_ K)))) && decide (PySem.W.typeIn K (.ref (d.at_ K)) = some (.type "function"))))))))))))
structure SupX (P : Program) (K : PySem.W.Frag) (d : DefS) : Prop where
  s : SupF K P (He.ga K d.cls) (d.at_ K) (ccAt K (d.at_ K)) (d.F K)
  i : PySem.W.findIn K (.ref (He.ga K d.cls)) "__init__" = some (some (.ref (d.at_ K)))
  t : PySem.W.typeIn K (.ref (d.at_ K)) = some (.type "function")
theorem DefS.sup {P : Program} {K : PySem.W.Frag} {d : DefS} (e : fnS K (d.at_ K) = d.val) (h : d.ok P K = true) : SupX P K d := by
  obtain ⟨h1, h⟩ := He.ba h
  obtain ⟨h2, h⟩ := He.ba h
  obtain ⟨h3, h⟩ := He.ba h
  obtain ⟨h4, h⟩ := He.ba h
  obtain ⟨h5, h⟩ := He.ba h
  obtain ⟨h6, h⟩ := He.ba h
  obtain ⟨h7, h⟩ := He.ba h
  obtain ⟨h8, h⟩ := He.ba h
  obtain ⟨h9, h⟩ := He.ba h
  obtain ⟨h10, h⟩ := He.ba h
  obtain ⟨h11, h12⟩ := He.ba h
  refine ⟨⟨oexB_ok h1, ?_, rfl, ?_, h4, ?_, of_decide_eq_true h6, He.eqO_ok h7, He.eqO_ok h8, of_decide_eq_true h9, of_decide_eq_true h10⟩, He.eqO_ok h11, of_decide_eq_true h12⟩
  · unfold fnS at e
    split at e
    · rename_i od fd osl lk
      obtain ⟨n1, n2, n3, n4, n5, n6, n7, n8, n9, n10, n11, n12, n13, n14, n15⟩ := fd
      have e2 : (some (n1, n2, n3, n4, n5, n6, n7.map (·.1), n8, n9, n12, n15) : FnS) = some (("__init__" : Str), d.qual, d.params, FuncBody.stmts d.body, d.scope, mainGlobals, [("__class__" : Str)], Value.none, Value.none, (none : Option Addr), builtinsNs) := e
      simp only [Option.some.injEq, Prod.mk.injEq] at e2
      obtain ⟨e1, e2, e3, e4, e5, e6, e7, e8, e9, e10, e11⟩ := e2
      subst e1 e2 e3 e4 e5 e6 e8 e9 e10 e11
      obtain ⟨cl, hcl⟩ : ∃ c, n7 = [(("__class__" : Str), c)] := by
        match n7, e7 with
        | [(a, c)], e7 =>
          simp at e7
          exact ⟨c, by rw [e7]⟩
      subst hcl
      obtain ⟨cc, hcc⟩ : ∃ c, n13 = .ref c := by
        unfold codeRefB at h2
        rw [lk] at h2
        cases n13 with
        | ref c => exact ⟨c, rfl⟩
        | _ => cases h2
      subst hcc
      have q1 : ccAt K (d.at_ K) = cl := by unfold ccAt; rw [lk]
      have q2 : cdAt K (d.at_ K) = cc := by unfold cdAt; rw [lk]
      refine ⟨od, n10, n11, n14, osl, ?_⟩
      rw [lk]
      unfold DefS.F
      rw [q1, q2]
    · cases e
  · unfold cellB at h3
    split at h3
    · rename_i o1 o2 D o3 lk
      have : D = He.ga K d.cls := of_decide_eq_true h3
      subst this
      exact ⟨_, _, _, lk⟩
    · cases h3
  · unfold fileB at h5
    split at h5
    · rename_i o1 o2 vs o3 lk
      split at h5
      · rename_i x tf hx
        have : x = P.main.file := of_decide_eq_true h5
        subst this
        exact ⟨_, _, _, vs, tf, lk, hx⟩
      · cases h5
    · cases h5
/-- further facts -/
inductive Xa where
  | exg (x : Str)
  | kit (x y : Str) (b : Bool)
def Xa.ok (K : PySem.W.Frag) : Xa → Bool
  | .exg x => exgB K (He.ga K x)
  | .kit x y b => decide (PySem.W.kitOne K (.ref (He.ga K x)) (.ref (He.ga K y)) = some b)
theorem exg_ok {K : PySem.W.Frag} {x : Str} (c : (Xa.exg x).ok K = true) : ExcC K (He.ga K x) := exgB_ok c
theorem kit_ok {K : PySem.W.Frag} {x y : Str} {b : Bool} (c : (Xa.kit x y b).ok K = true) : PySem.W.kitOne K (.ref (He.ga K x)) (.ref (He.ga K y)) = some b := of_decide_eq_true c
/-! the Hook -/
def asX (g : Addr → Option Obj) : Nat → List Addr
  | 0 => [mainGlobals, cStatics]
  | n + 1 => He.growD g (asX g n)
abbrev AlX : Type := He.AlD × (Bool × List FnS)
def obsX (P : Program) (fa : List He.Fa) (fn : List He.DefD) (xa : List Xa) (ds : List DefS) (K : PySem.W.Frag) : AlX := (He.obsD fa fn K, ((xa.all fun x => x.ok K) && ds.all fun d => d.ok P K, ds.map fun d => fnS K (d.at_ K)))
def valX (fn : List He.DefD) (ds : List DefS) : AlX := (He.valD fn, (true, ds.map DefS.val))
def SaysX (P : Program) (fa : List He.Fa) (fn : List He.DefD) (xa : List Xa) (ds : List DefS) (K : PySem.W.Frag) : Prop := obsX P fa fn xa ds K = valX fn ds
def obsXG (P : Program) (n : Nat) (fa : List He.Fa) (fn : List He.DefD) (xa : List Xa) (ds : List DefS) (g : Addr → Option Obj) : AlX := obsX P fa fn xa ds (He.frG g (asX g n))
def hookX (P : Program) (n : Nat) (fa : List He.Fa) (fn : List He.DefD) (xa : List Xa) (ds : List DefS) : PySem.W.Hook where
  α := AlX
  obs := fun s => obsXG P n fa fn xa ds s.heap.get?
  val := fun _ => valX fn ds
  says := fun _ h => ∃ K : PySem.W.Frag, K.In h ∧ SaysX P fa fn xa ds K
  of := fun _ _ e => ⟨_, He.frG_in, e⟩
  keeps := fun _ _ _ ⟨K, hK, c⟩ k => ⟨K, PySem.W.Frag.In.keeps hK k, c⟩
theorem obsXG_eq {P : Program} {n : Nat} {fa : List He.Fa} {fn : List He.DefD} {xa : List Xa} {ds : List DefS} {g : Addr → Option Obj} {s : Shared} (h : ∀ a, g a = s.heap.get? a) : obsXG P n fa fn xa ds g = (hookX P n fa fn xa ds).obs s := by
  have e : g = s.heap.get? := funext h
  rw [e] <;> rfl
section
variable {P : Program} {fa : List He.Fa} {fn : List He.DefD} {xa : List Xa} {ds : List DefS} {K : PySem.W.Frag}
theorem SaysX.d (c : SaysX P fa fn xa ds K) : He.SaysD fa fn K := congrArg (fun z : AlX => z.1) c
theorem SaysX.fact (c : SaysX P fa fn xa ds K) (i : Nat) {f : Xa} (h : xa[i]? = some f := by rfl) : f.ok K = true := by
  have c1 := (He.ba (show ((xa.all fun x => x.ok K) && ds.all fun d => d.ok P K) = true from congrArg (fun z : AlX => z.2.1) c)).1
  exact List.all_eq_true.mp c1 f (List.mem_of_getElem? h)
theorem SaysX.sup (c : SaysX P fa fn xa ds K) (i : Nat) {d : DefS} (h : ds[i]? = some d := by rfl) : SupX P K d := by
  have c2 := (He.ba (show ((xa.all fun x => x.ok K) && ds.all fun d => d.ok P K) = true from congrArg (fun z : AlX => z.2.1) c)).2
  have e : ds.map (fun d => fnS K (d.at_ K)) = ds.map DefS.val := congrArg (fun z : AlX => z.2.2) c
  have e2 : (ds.map fun d => fnS K (d.at_ K))[i]? = (ds.map DefS.val)[i]? := by rw [e]
  rw [List.getElem?_map, List.getElem?_map, h] at e2
  exact DefS.sup (Option.some.inj e2) (List.all_eq_true.mp c2 d (List.mem_of_getElem? h))
end
end Fy

set_option Elab.async false
set_option linter.all false
set_option maxRecDepth 100000
set_option maxHeartbeats 4000000
namespace Fy
open PySem PySem.Spec PyProof.Rows L2
def top (i : Nat) : Stmt := PySem.Challenge.pw_fromyesalone_k71_teacher_by_model.main.body.getD i (.Pass ⟨0, 0, 0, 0⟩)
abbrev s_check_letters : Stmt := top 11
abbrev s_check_word : Stmt := top 12
abbrev s_check_rows : Stmt := top 15
abbrev s_Machine_init : Stmt := inClass (top 16) 0
abbrev s_Machine_run : Stmt := inClass (top 16) 1
abbrev s_Machine_contains : Stmt := inClass (top 16) 2
abbrev s_reached_states : Stmt := top 17
abbrev s_living_states : Stmt := top 18
abbrev s_useful_states : Stmt := top 19
abbrev s_rest_groups : Stmt := top 20
abbrev s_smallest_of : Stmt := top 21
abbrev s_smallest : Stmt := top 22
abbrev s_nothing : Stmt := top 23
abbrev s_check_same_letters : Stmt := top 25
abbrev s_step : Stmt := top 26
abbrev s_first_difference : Stmt := top 27
abbrev s_parting_word : Stmt := top 28
abbrev s_Teacher_init : Stmt := inClass (top 30) 0
abbrev s_Teacher_holds : Stmt := inClass (top 30) 1
abbrev s_Teacher_refute : Stmt := inClass (top 30) 2
abbrev s_Lstart : Stmt := top 32
abbrev s_Lnext : Stmt := top 33
abbrev s_Linteger : Stmt := top 34
abbrev s_Lrows : Stmt := top 35
abbrev s_Lheld : Stmt := top 36
abbrev s_Lstep : Stmt := top 37
abbrev s_Lparting : Stmt := top 38
abbrev s_Lchanged : Stmt := top 39
abbrev s_Lword : Stmt := top 40
abbrev s_Lhidden : Stmt := top 41
abbrev s_Ltwin : Stmt := top 42
abbrev s_Lmade : Stmt := top 43
abbrev s_Lguess : Stmt := top 44
abbrev s_Lspoilt : Stmt := top 45
abbrev s_Ldue : Stmt := top 46
abbrev s_Lrefusal : Stmt := top 47
abbrev s_Lholds : Stmt := top 48
abbrev s_Lrefute : Stmt := top 49
abbrev s_Lright : Stmt := top 50
abbrev s_Lstate : Stmt := top 51
abbrev s_law : Stmt := top 52
abbrev s_BadWord_init : Stmt := inClass (top 4) 0
def u_BadWord : DefS := ⟨"BadWord", "BadWord.__init__", defArgs s_BadWord_init, defBody s_BadWord_init, defScope s_BadWord_init⟩
structure Tx (K : PySem.W.Frag) (mg : Str → Option Value) : Prop where
  g_LanguageError : mg "LanguageError" = some (.ref (He.ga K "LanguageError"))
  g_BadLetters : mg "BadLetters" = some (.ref (He.ga K "BadLetters"))
  g_BadWord : mg "BadWord" = some (.ref (He.ga K "BadWord"))
  g_BadKind : mg "BadKind" = some (.ref (He.ga K "BadKind"))
  g_BadMachine : mg "BadMachine" = some (.ref (He.ga K "BadMachine"))
  g_TooMany : mg "TooMany" = some (.ref (He.ga K "TooMany"))
  h_SMALL : ∃ t, mg "SMALL" = some (.str "abcdefghijklmnopqrstuvwxyz" t)
  h_MOST_KINDS_OF_LETTERS : ∃ t, mg "MOST_KINDS_OF_LETTERS" = some (.int 4 t)
  g_check_letters : mg "check_letters" = some (.ref (He.ga K "check_letters"))
  f_check_letters : ∃ fd, FunD K "check_letters" "check_letters" (defArgs s_check_letters) (defBody s_check_letters) (defScope s_check_letters) [] [] (He.ga K "check_letters") fd
  g_check_word : mg "check_word" = some (.ref (He.ga K "check_word"))
  f_check_word : ∃ fd, FunD K "check_word" "check_word" (defArgs s_check_word) (defBody s_check_word) (defScope s_check_word) [] [] (He.ga K "check_word") fd
  h_MOST_STATES : ∃ t, mg "MOST_STATES" = some (.int 128 t)
  g_check_rows : mg "check_rows" = some (.ref (He.ga K "check_rows"))
  f_check_rows : ∃ fd, FunD K "check_rows" "check_rows" (defArgs s_check_rows) (defBody s_check_rows) (defScope s_check_rows) [] [] (He.ga K "check_rows") fd
  g_Machine : mg "Machine" = some (.ref (He.ga K "Machine"))
  c_Machine : Cls K (He.ga K "Machine")
  m_Machine : Mk K (He.ga K "Machine") (He.ma K (He.ga K "Machine") "__init__")
  n_Machine_letters : NoAttr K (He.ga K "Machine") "letters"
  n_Machine_arrows : NoAttr K (He.ga K "Machine") "arrows"
  n_Machine_ends : NoAttr K (He.ga K "Machine") "ends"
  f_Machine_init : ∃ fd, FunD K "__init__" "Machine.__init__" (defArgs s_Machine_init) (defBody s_Machine_init) (defScope s_Machine_init) [] [] (He.ma K (He.ga K "Machine") "__init__") fd
  f_Machine_run : ∃ fd, FunD K "run" "Machine.run" (defArgs s_Machine_run) (defBody s_Machine_run) (defScope s_Machine_run) [] [] (He.ma K (He.ga K "Machine") "run") fd
  k_Machine_run : Meth K (He.ga K "Machine") "run" (He.ma K (He.ga K "Machine") "run")
  f_Machine_contains : ∃ fd, FunD K "__contains__" "Machine.__contains__" (defArgs s_Machine_contains) (defBody s_Machine_contains) (defScope s_Machine_contains) [] [] (He.ma K (He.ga K "Machine") "__contains__") fd
  k_Machine_contains : Meth K (He.ga K "Machine") "__contains__" (He.ma K (He.ga K "Machine") "__contains__")
  g_reached_states : mg "reached_states" = some (.ref (He.ga K "reached_states"))
  f_reached_states : ∃ fd, FunD K "reached_states" "reached_states" (defArgs s_reached_states) (defBody s_reached_states) (defScope s_reached_states) [] [] (He.ga K "reached_states") fd
  g_living_states : mg "living_states" = some (.ref (He.ga K "living_states"))
  f_living_states : ∃ fd, FunD K "living_states" "living_states" (defArgs s_living_states) (defBody s_living_states) (defScope s_living_states) [] [] (He.ga K "living_states") fd
  g_useful_states : mg "useful_states" = some (.ref (He.ga K "useful_states"))
  f_useful_states : ∃ fd, FunD K "useful_states" "useful_states" (defArgs s_useful_states) (defBody s_useful_states) (defScope s_useful_states) [] [] (He.ga K "useful_states") fd
  g_rest_groups : mg "rest_groups" = some (.ref (He.ga K "rest_groups"))
  f_rest_groups : ∃ fd, FunD K "rest_groups" "rest_groups" (defArgs s_rest_groups) (defBody s_rest_groups) (defScope s_rest_groups) [] [] (He.ga K "rest_groups") fd
  g_smallest_of : mg "smallest_of" = some (.ref (He.ga K "smallest_of"))
  f_smallest_of : ∃ fd, FunD K "smallest_of" "smallest_of" (defArgs s_smallest_of) (defBody s_smallest_of) (defScope s_smallest_of) [] [] (He.ga K "smallest_of") fd
  g_smallest : mg "smallest" = some (.ref (He.ga K "smallest"))
  f_smallest : ∃ fd, FunD K "smallest" "smallest" (defArgs s_smallest) (defBody s_smallest) (defScope s_smallest) [] [] (He.ga K "smallest") fd
  g_nothing : mg "nothing" = some (.ref (He.ga K "nothing"))
  f_nothing : ∃ fd, FunD K "nothing" "nothing" (defArgs s_nothing) (defBody s_nothing) (defScope s_nothing) [] [] (He.ga K "nothing") fd
  g_check_same_letters : mg "check_same_letters" = some (.ref (He.ga K "check_same_letters"))
  f_check_same_letters : ∃ fd, FunD K "check_same_letters" "check_same_letters" (defArgs s_check_same_letters) (defBody s_check_same_letters) (defScope s_check_same_letters) [] [] (He.ga K "check_same_letters") fd
  g_step : mg "step" = some (.ref (He.ga K "step"))
  f_step : ∃ fd, FunD K "step" "step" (defArgs s_step) (defBody s_step) (defScope s_step) [] [] (He.ga K "step") fd
  g_first_difference : mg "first_difference" = some (.ref (He.ga K "first_difference"))
  f_first_difference : ∃ fd, FunD K "first_difference" "first_difference" (defArgs s_first_difference) (defBody s_first_difference) (defScope s_first_difference) [] [] (He.ga K "first_difference") fd
  g_parting_word : mg "parting_word" = some (.ref (He.ga K "parting_word"))
  f_parting_word : ∃ fd, FunD K "parting_word" "parting_word" (defArgs s_parting_word) (defBody s_parting_word) (defScope s_parting_word) [] [] (He.ga K "parting_word") fd
  g_Teacher : mg "Teacher" = some (.ref (He.ga K "Teacher"))
  c_Teacher : Cls K (He.ga K "Teacher")
  m_Teacher : Mk K (He.ga K "Teacher") (He.ma K (He.ga K "Teacher") "__init__")
  n_Teacher_machine : NoAttr K (He.ga K "Teacher") "machine"
  n_Teacher_letters : NoAttr K (He.ga K "Teacher") "letters"
  n_Teacher_asked : NoAttr K (He.ga K "Teacher") "asked"
  n_Teacher_guessed : NoAttr K (He.ga K "Teacher") "guessed"
  f_Teacher_init : ∃ fd, FunD K "__init__" "Teacher.__init__" (defArgs s_Teacher_init) (defBody s_Teacher_init) (defScope s_Teacher_init) [] [] (He.ma K (He.ga K "Teacher") "__init__") fd
  f_Teacher_holds : ∃ fd, FunD K "holds" "Teacher.holds" (defArgs s_Teacher_holds) (defBody s_Teacher_holds) (defScope s_Teacher_holds) [] [] (He.ma K (He.ga K "Teacher") "holds") fd
  k_Teacher_holds : Meth K (He.ga K "Teacher") "holds" (He.ma K (He.ga K "Teacher") "holds")
  f_Teacher_refute : ∃ fd, FunD K "refute" "Teacher.refute" (defArgs s_Teacher_refute) (defBody s_Teacher_refute) (defScope s_Teacher_refute) [] [] (He.ma K (He.ga K "Teacher") "refute") fd
  k_Teacher_refute : Meth K (He.ga K "Teacher") "refute" (He.ma K (He.ga K "Teacher") "refute")
  g__law_start : mg "_law_start" = some (.ref (He.ga K "_law_start"))
  f_Lstart : ∃ fd, FunD K "_law_start" "_law_start" (defArgs s_Lstart) (defBody s_Lstart) (defScope s_Lstart) [] [] (He.ga K "_law_start") fd
  g__law_next : mg "_law_next" = some (.ref (He.ga K "_law_next"))
  f_Lnext : ∃ fd, FunD K "_law_next" "_law_next" (defArgs s_Lnext) (defBody s_Lnext) (defScope s_Lnext) [] [] (He.ga K "_law_next") fd
  g__law_integer : mg "_law_integer" = some (.ref (He.ga K "_law_integer"))
  f_Linteger : ∃ fd, FunD K "_law_integer" "_law_integer" (defArgs s_Linteger) (defBody s_Linteger) (defScope s_Linteger) [] [] (He.ga K "_law_integer") fd
  g__law_rows : mg "_law_rows" = some (.ref (He.ga K "_law_rows"))
  f_Lrows : ∃ fd, FunD K "_law_rows" "_law_rows" (defArgs s_Lrows) (defBody s_Lrows) (defScope s_Lrows) [] [] (He.ga K "_law_rows") fd
  g__law_held : mg "_law_held" = some (.ref (He.ga K "_law_held"))
  f_Lheld : ∃ fd, FunD K "_law_held" "_law_held" (defArgs s_Lheld) (defBody s_Lheld) (defScope s_Lheld) [] [] (He.ga K "_law_held") fd
  g__law_step : mg "_law_step" = some (.ref (He.ga K "_law_step"))
  f_Lstep : ∃ fd, FunD K "_law_step" "_law_step" (defArgs s_Lstep) (defBody s_Lstep) (defScope s_Lstep) [] [] (He.ga K "_law_step") fd
  g__law_parting : mg "_law_parting" = some (.ref (He.ga K "_law_parting"))
  f_Lparting : ∃ fd, FunD K "_law_parting" "_law_parting" (defArgs s_Lparting) (defBody s_Lparting) (defScope s_Lparting) [] [] (He.ga K "_law_parting") fd
  g__law_changed : mg "_law_changed" = some (.ref (He.ga K "_law_changed"))
  f_Lchanged : ∃ fd, FunD K "_law_changed" "_law_changed" (defArgs s_Lchanged) (defBody s_Lchanged) (defScope s_Lchanged) [] [] (He.ga K "_law_changed") fd
  g__law_word : mg "_law_word" = some (.ref (He.ga K "_law_word"))
  f_Lword : ∃ fd, FunD K "_law_word" "_law_word" (defArgs s_Lword) (defBody s_Lword) (defScope s_Lword) [] [] (He.ga K "_law_word") fd
  g__law_hidden : mg "_law_hidden" = some (.ref (He.ga K "_law_hidden"))
  f_Lhidden : ∃ fd, FunD K "_law_hidden" "_law_hidden" (defArgs s_Lhidden) (defBody s_Lhidden) (defScope s_Lhidden) [] [] (He.ga K "_law_hidden") fd
  g__law_twin : mg "_law_twin" = some (.ref (He.ga K "_law_twin"))
  f_Ltwin : ∃ fd, FunD K "_law_twin" "_law_twin" (defArgs s_Ltwin) (defBody s_Ltwin) (defScope s_Ltwin) [] [] (He.ga K "_law_twin") fd
  g__law_made : mg "_law_made" = some (.ref (He.ga K "_law_made"))
  f_Lmade : ∃ fd, FunD K "_law_made" "_law_made" (defArgs s_Lmade) (defBody s_Lmade) (defScope s_Lmade) [] [] (He.ga K "_law_made") fd
  g__law_guess : mg "_law_guess" = some (.ref (He.ga K "_law_guess"))
  f_Lguess : ∃ fd, FunD K "_law_guess" "_law_guess" (defArgs s_Lguess) (defBody s_Lguess) (defScope s_Lguess) [] [] (He.ga K "_law_guess") fd
  g__law_spoilt : mg "_law_spoilt" = some (.ref (He.ga K "_law_spoilt"))
  f_Lspoilt : ∃ fd, FunD K "_law_spoilt" "_law_spoilt" (defArgs s_Lspoilt) (defBody s_Lspoilt) (defScope s_Lspoilt) [] [] (He.ga K "_law_spoilt") fd
  g__law_due : mg "_law_due" = some (.ref (He.ga K "_law_due"))
  f_Ldue : ∃ fd, FunD K "_law_due" "_law_due" (defArgs s_Ldue) (defBody s_Ldue) (defScope s_Ldue) [] [] (He.ga K "_law_due") fd
  g__law_refusal : mg "_law_refusal" = some (.ref (He.ga K "_law_refusal"))
  f_Lrefusal : ∃ fd, FunD K "_law_refusal" "_law_refusal" (defArgs s_Lrefusal) (defBody s_Lrefusal) (defScope s_Lrefusal) [] [] (He.ga K "_law_refusal") fd
  g__law_holds : mg "_law_holds" = some (.ref (He.ga K "_law_holds"))
  f_Lholds : ∃ fd, FunD K "_law_holds" "_law_holds" (defArgs s_Lholds) (defBody s_Lholds) (defScope s_Lholds) [] [] (He.ga K "_law_holds") fd
  g__law_refute : mg "_law_refute" = some (.ref (He.ga K "_law_refute"))
  f_Lrefute : ∃ fd, FunD K "_law_refute" "_law_refute" (defArgs s_Lrefute) (defBody s_Lrefute) (defScope s_Lrefute) [] [] (He.ga K "_law_refute") fd
  g__law_right : mg "_law_right" = some (.ref (He.ga K "_law_right"))
  f_Lright : ∃ fd, FunD K "_law_right" "_law_right" (defArgs s_Lright) (defBody s_Lright) (defScope s_Lright) [] [] (He.ga K "_law_right") fd
  g__law_state : mg "_law_state" = some (.ref (He.ga K "_law_state"))
  f_Lstate : ∃ fd, FunD K "_law_state" "_law_state" (defArgs s_Lstate) (defBody s_Lstate) (defScope s_Lstate) [] [] (He.ga K "_law_state") fd
  g_law : mg "law" = some (.ref (He.ga K "law"))
  f_law : ∃ fd, FunD K "law" "law" (defArgs s_law) (defBody s_law) (defScope s_law) [] [] (He.ga K "law") fd
  z_abs : mg "abs" = none
  z_all : mg "all" = none
  z_bool : mg "bool" = none
  z_enumerate : mg "enumerate" = none
  z_int : mg "int" = none
  z_isinstance : mg "isinstance" = none
  z_len : mg "len" = none
  z_list : mg "list" = none
  z_range : mg "range" = none
  z_sorted : mg "sorted" = none
  z_str : mg "str" = none
  z_tuple : mg "tuple" = none
structure Tq (P : Program) (K : PySem.W.Frag) (mg : Str → Option Value) : Prop where
  t : Tx K mg
  q_BadLetters : ExcC K (He.ga K "BadLetters")
  b_BadLetters : PySem.W.exmOne K (.ref (He.ga K "BadLetters")) (.ref (He.ga K "LanguageError")) = some true
  i_BadLetters_BadLetters : PySem.W.kitOne K (.ref (He.ga K "BadLetters")) (.ref (He.ga K "BadLetters")) = some true
  i_BadLetters_BadWord : PySem.W.kitOne K (.ref (He.ga K "BadLetters")) (.ref (He.ga K "BadWord")) = some false
  i_BadLetters_TooMany : PySem.W.kitOne K (.ref (He.ga K "BadLetters")) (.ref (He.ga K "TooMany")) = some false
  i_BadLetters_BadKind : PySem.W.kitOne K (.ref (He.ga K "BadLetters")) (.ref (He.ga K "BadKind")) = some false
  e_BadLetters : PySem.W.excIn K (He.ga K "BadLetters") He.veBase "ValueError.__new__" = true ∧ PySem.W.keepIn K (.ref (He.ga K "BadLetters")) = true ∧ PySem.W.subIn K (.ref (He.ga K "BadLetters")) (.type "BaseException") = some true ∧ PySem.W.typeIn K (.ref (He.ga K "BadLetters")) = some (.type "type")
  q_BadWord : ExcC K (He.ga K "BadWord")
  b_BadWord : PySem.W.exmOne K (.ref (He.ga K "BadWord")) (.ref (He.ga K "LanguageError")) = some true
  i_BadWord_BadLetters : PySem.W.kitOne K (.ref (He.ga K "BadWord")) (.ref (He.ga K "BadLetters")) = some false
  i_BadWord_BadWord : PySem.W.kitOne K (.ref (He.ga K "BadWord")) (.ref (He.ga K "BadWord")) = some true
  i_BadWord_TooMany : PySem.W.kitOne K (.ref (He.ga K "BadWord")) (.ref (He.ga K "TooMany")) = some false
  i_BadWord_BadKind : PySem.W.kitOne K (.ref (He.ga K "BadWord")) (.ref (He.ga K "BadKind")) = some false
  s_BadWord : SupX P K u_BadWord
  n_BadWord_word : PySem.W.findIn K (.ref (He.ga K "BadWord")) "word" = some none
  n_BadWord_place : PySem.W.findIn K (.ref (He.ga K "BadWord")) "place" = some none
  z_super : mg "super" = none
end Fy

set_option Elab.async false
set_option linter.all false
set_option maxRecDepth 100000
set_option maxHeartbeats 0
namespace Fy
open PySem PySem.Spec PyProof.Rows L2
def d_check_letters : He.DefD := ⟨("check_letters", none), "check_letters", "check_letters", defArgs s_check_letters, defBody s_check_letters, defScope s_check_letters, [], []⟩
def d_check_word : He.DefD := ⟨("check_word", none), "check_word", "check_word", defArgs s_check_word, defBody s_check_word, defScope s_check_word, [], []⟩
def d_check_rows : He.DefD := ⟨("check_rows", none), "check_rows", "check_rows", defArgs s_check_rows, defBody s_check_rows, defScope s_check_rows, [], []⟩
def d_Machine_init : He.DefD := ⟨("Machine", some "__init__"), "__init__", "Machine.__init__", defArgs s_Machine_init, defBody s_Machine_init, defScope s_Machine_init, [], []⟩
def d_Machine_run : He.DefD := ⟨("Machine", some "run"), "run", "Machine.run", defArgs s_Machine_run, defBody s_Machine_run, defScope s_Machine_run, [], []⟩
def d_Machine_contains : He.DefD := ⟨("Machine", some "__contains__"), "__contains__", "Machine.__contains__", defArgs s_Machine_contains, defBody s_Machine_contains, defScope s_Machine_contains, [], []⟩
def d_reached_states : He.DefD := ⟨("reached_states", none), "reached_states", "reached_states", defArgs s_reached_states, defBody s_reached_states, defScope s_reached_states, [], []⟩
def d_living_states : He.DefD := ⟨("living_states", none), "living_states", "living_states", defArgs s_living_states, defBody s_living_states, defScope s_living_states, [], []⟩
def d_useful_states : He.DefD := ⟨("useful_states", none), "useful_states", "useful_states", defArgs s_useful_states, defBody s_useful_states, defScope s_useful_states, [], []⟩
def d_rest_groups : He.DefD := ⟨("rest_groups", none), "rest_groups", "rest_groups", defArgs s_rest_groups, defBody s_rest_groups, defScope s_rest_groups, [], []⟩
def d_smallest_of : He.DefD := ⟨("smallest_of", none), "smallest_of", "smallest_of", defArgs s_smallest_of, defBody s_smallest_of, defScope s_smallest_of, [], []⟩
def d_smallest : He.DefD := ⟨("smallest", none), "smallest", "smallest", defArgs s_smallest, defBody s_smallest, defScope s_smallest, [], []⟩
def d_nothing : He.DefD := ⟨("nothing", none), "nothing", "nothing", defArgs s_nothing, defBody s_nothing, defScope s_nothing, [], []⟩
def d_check_same_letters : He.DefD := ⟨("check_same_letters", none), "check_same_letters", "check_same_letters", defArgs s_check_same_letters, defBody s_check_same_letters, defScope s_check_same_letters, [], []⟩
def d_step : He.DefD := ⟨("step", none), "step", "step", defArgs s_step, defBody s_step, defScope s_step, [], []⟩
def d_first_difference : He.DefD := ⟨("first_difference", none), "first_difference", "first_difference", defArgs s_first_difference, defBody s_first_difference, defScope s_first_difference, [], []⟩
def d_parting_word : He.DefD := ⟨("parting_word", none), "parting_word", "parting_word", defArgs s_parting_word, defBody s_parting_word, defScope s_parting_word, [], []⟩
def d_Teacher_init : He.DefD := ⟨("Teacher", some "__init__"), "__init__", "Teacher.__init__", defArgs s_Teacher_init, defBody s_Teacher_init, defScope s_Teacher_init, [], []⟩
def d_Teacher_holds : He.DefD := ⟨("Teacher", some "holds"), "holds", "Teacher.holds", defArgs s_Teacher_holds, defBody s_Teacher_holds, defScope s_Teacher_holds, [], []⟩
def d_Teacher_refute : He.DefD := ⟨("Teacher", some "refute"), "refute", "Teacher.refute", defArgs s_Teacher_refute, defBody s_Teacher_refute, defScope s_Teacher_refute, [], []⟩
def d_Lstart : He.DefD := ⟨("_law_start", none), "_law_start", "_law_start", defArgs s_Lstart, defBody s_Lstart, defScope s_Lstart, [], []⟩
def d_Lnext : He.DefD := ⟨("_law_next", none), "_law_next", "_law_next", defArgs s_Lnext, defBody s_Lnext, defScope s_Lnext, [], []⟩
def d_Linteger : He.DefD := ⟨("_law_integer", none), "_law_integer", "_law_integer", defArgs s_Linteger, defBody s_Linteger, defScope s_Linteger, [], []⟩
def d_Lrows : He.DefD := ⟨("_law_rows", none), "_law_rows", "_law_rows", defArgs s_Lrows, defBody s_Lrows, defScope s_Lrows, [], []⟩
def d_Lheld : He.DefD := ⟨("_law_held", none), "_law_held", "_law_held", defArgs s_Lheld, defBody s_Lheld, defScope s_Lheld, [], []⟩
def d_Lstep : He.DefD := ⟨("_law_step", none), "_law_step", "_law_step", defArgs s_Lstep, defBody s_Lstep, defScope s_Lstep, [], []⟩
def d_Lparting : He.DefD := ⟨("_law_parting", none), "_law_parting", "_law_parting", defArgs s_Lparting, defBody s_Lparting, defScope s_Lparting, [], []⟩
def d_Lchanged : He.DefD := ⟨("_law_changed", none), "_law_changed", "_law_changed", defArgs s_Lchanged, defBody s_Lchanged, defScope s_Lchanged, [], []⟩
def d_Lword : He.DefD := ⟨("_law_word", none), "_law_word", "_law_word", defArgs s_Lword, defBody s_Lword, defScope s_Lword, [], []⟩
def d_Lhidden : He.DefD := ⟨("_law_hidden", none), "_law_hidden", "_law_hidden", defArgs s_Lhidden, defBody s_Lhidden, defScope s_Lhidden, [], []⟩
def d_Ltwin : He.DefD := ⟨("_law_twin", none), "_law_twin", "_law_twin", defArgs s_Ltwin, defBody s_Ltwin, defScope s_Ltwin, [], []⟩
def d_Lmade : He.DefD := ⟨("_law_made", none), "_law_made", "_law_made", defArgs s_Lmade, defBody s_Lmade, defScope s_Lmade, [], []⟩
def d_Lguess : He.DefD := ⟨("_law_guess", none), "_law_guess", "_law_guess", defArgs s_Lguess, defBody s_Lguess, defScope s_Lguess, [], []⟩
def d_Lspoilt : He.DefD := ⟨("_law_spoilt", none), "_law_spoilt", "_law_spoilt", defArgs s_Lspoilt, defBody s_Lspoilt, defScope s_Lspoilt, [], []⟩
def d_Ldue : He.DefD := ⟨("_law_due", none), "_law_due", "_law_due", defArgs s_Ldue, defBody s_Ldue, defScope s_Ldue, [], []⟩
def d_Lrefusal : He.DefD := ⟨("_law_refusal", none), "_law_refusal", "_law_refusal", defArgs s_Lrefusal, defBody s_Lrefusal, defScope s_Lrefusal, [], []⟩
def d_Lholds : He.DefD := ⟨("_law_holds", none), "_law_holds", "_law_holds", defArgs s_Lholds, defBody s_Lholds, defScope s_Lholds, [], []⟩
def d_Lrefute : He.DefD := ⟨("_law_refute", none), "_law_refute", "_law_refute", defArgs s_Lrefute, defBody s_Lrefute, defScope s_Lrefute, [], []⟩
def d_Lright : He.DefD := ⟨("_law_right", none), "_law_right", "_law_right", defArgs s_Lright, defBody s_Lright, defScope s_Lright, [], []⟩
def d_Lstate : He.DefD := ⟨("_law_state", none), "_law_state", "_law_state", defArgs s_Lstate, defBody s_Lstate, defScope s_Lstate, [], []⟩
def d_law : He.DefD := ⟨("law", none), "law", "law", defArgs s_law, defBody s_law, defScope s_law, [], []⟩
def fn : List He.DefD := [d_check_letters, d_check_word, d_check_rows, d_Machine_init, d_Machine_run, d_Machine_contains, d_reached_states, d_living_states, d_useful_states, d_rest_groups, d_smallest_of, d_smallest, d_nothing, d_check_same_letters, d_step, d_first_difference, d_parting_word, d_Teacher_init, d_Teacher_holds, d_Teacher_refute, d_Lstart, d_Lnext, d_Linteger, d_Lrows, d_Lheld, d_Lstep, d_Lparting, d_Lchanged, d_Lword, d_Lhidden, d_Ltwin, d_Lmade, d_Lguess, d_Lspoilt, d_Ldue, d_Lrefusal, d_Lholds, d_Lrefute, d_Lright, d_Lstate, d_law]
def fa : List He.Fa := [.glo "LanguageError", .glo "BadLetters", .glo "BadWord", .glo "BadKind", .glo "BadMachine", .glo "TooMany", .str "SMALL" "abcdefghijklmnopqrstuvwxyz", .int "MOST_KINDS_OF_LETTERS" 4, .glo "check_letters", .glo "check_word", .int "MOST_STATES" 128, .glo "check_rows", .glo "Machine", .cls "Machine", .mkr "Machine", .noat "Machine" "letters", .noat "Machine" "arrows", .noat "Machine" "ends", .meth "Machine" "run", .meth "Machine" "__contains__", .glo "reached_states", .glo "living_states", .glo "useful_states", .glo "rest_groups", .glo "smallest_of", .glo "smallest", .glo "nothing", .glo "check_same_letters", .glo "step", .glo "first_difference", .glo "parting_word", .glo "Teacher", .cls "Teacher", .mkr "Teacher", .noat "Teacher" "machine", .noat "Teacher" "letters", .noat "Teacher" "asked", .noat "Teacher" "guessed", .meth "Teacher" "holds", .meth "Teacher" "refute", .glo "_law_start", .glo "_law_next", .glo "_law_integer", .glo "_law_rows", .glo "_law_held", .glo "_law_step", .glo "_law_parting", .glo "_law_changed", .glo "_law_word", .glo "_law_hidden", .glo "_law_twin", .glo "_law_made", .glo "_law_guess", .glo "_law_spoilt", .glo "_law_due", .glo "_law_refusal", .glo "_law_holds", .glo "_law_refute", .glo "_law_right", .glo "_law_state", .glo "law", .exm "BadLetters" "LanguageError" true, .exc "BadLetters", .exm "BadWord" "LanguageError" true, .noat "BadWord" "word", .noat "BadWord" "place", .free "super", .free "abs", .free "all", .free "bool", .free "enumerate", .free "int", .free "isinstance", .free "len", .free "list", .free "range", .free "sorted", .free "str", .free "tuple"]
def loose : List PySem.Str := ([("_wall" : PySem.Str), ("LanguageError" : PySem.Str), ("BadLetters" : PySem.Str), ("BadWord" : PySem.Str), ("BadKind" : PySem.Str), ("BadMachine" : PySem.Str), ("TooMany" : PySem.Str), ("SMALL" : PySem.Str), ("MOST_KINDS_OF_LETTERS" : PySem.Str), ("check_letters" : PySem.Str), ("check_word" : PySem.Str), ("MOST_STATES" : PySem.Str), ("check_rows" : PySem.Str), ("Machine" : PySem.Str), ("reached_states" : PySem.Str)] : List PySem.Str) ++ ([("living_states" : PySem.Str), ("useful_states" : PySem.Str), ("rest_groups" : PySem.Str), ("smallest_of" : PySem.Str), ("smallest" : PySem.Str), ("nothing" : PySem.Str), ("check_same_letters" : PySem.Str), ("step" : PySem.Str), ("first_difference" : PySem.Str), ("parting_word" : PySem.Str), ("Teacher" : PySem.Str), ("_law_start" : PySem.Str), ("_law_next" : PySem.Str), ("_law_integer" : PySem.Str), ("_law_rows" : PySem.Str)] : List PySem.Str) ++ ([("_law_held" : PySem.Str), ("_law_step" : PySem.Str), ("_law_parting" : PySem.Str), ("_law_changed" : PySem.Str), ("_law_word" : PySem.Str), ("_law_hidden" : PySem.Str), ("_law_twin" : PySem.Str), ("_law_made" : PySem.Str), ("_law_guess" : PySem.Str), ("_law_spoilt" : PySem.Str), ("_law_due" : PySem.Str), ("_law_refusal" : PySem.Str), ("_law_holds" : PySem.Str), ("_law_refute" : PySem.Str), ("_law_right" : PySem.Str)] : List PySem.Str) ++ ([("_law_state" : PySem.Str)] : List PySem.Str)
theorem tx_of {K : PySem.W.Frag} {h : Heap} {mg : Str → Option Value} (X : K.In h) (G : h.Ns mainGlobals mg) (c : He.SaysD fa fn K) : Tx K mg :=
  ⟨He.glo_ok X G (c.fact 0 rfl),
   He.glo_ok X G (c.fact 1 rfl),
   He.glo_ok X G (c.fact 2 rfl),
   He.glo_ok X G (c.fact 3 rfl),
   He.glo_ok X G (c.fact 4 rfl),
   He.glo_ok X G (c.fact 5 rfl),
   He.str_ok X G (c.fact 6 rfl),
   He.int_ok X G (c.fact 7 rfl),
   He.glo_ok X G (c.fact 8 rfl),
   c.def_ 0 (d := d_check_letters) rfl,
   He.glo_ok X G (c.fact 9 rfl),
   c.def_ 1 (d := d_check_word) rfl,
   He.int_ok X G (c.fact 10 rfl),
   He.glo_ok X G (c.fact 11 rfl),
   c.def_ 2 (d := d_check_rows) rfl,
   He.glo_ok X G (c.fact 12 rfl),
   He.cls_ok (c.fact 13 rfl),
   He.mkr_ok (c.fact 14 rfl),
   He.noat_ok (c.fact 15 rfl),
   He.noat_ok (c.fact 16 rfl),
   He.noat_ok (c.fact 17 rfl),
   c.def_ 3 (d := d_Machine_init) rfl,
   c.def_ 4 (d := d_Machine_run) rfl,
   He.meth_ok (c.fact 18 rfl),
   c.def_ 5 (d := d_Machine_contains) rfl,
   He.meth_ok (c.fact 19 rfl),
   He.glo_ok X G (c.fact 20 rfl),
   c.def_ 6 (d := d_reached_states) rfl,
   He.glo_ok X G (c.fact 21 rfl),
   c.def_ 7 (d := d_living_states) rfl,
   He.glo_ok X G (c.fact 22 rfl),
   c.def_ 8 (d := d_useful_states) rfl,
   He.glo_ok X G (c.fact 23 rfl),
   c.def_ 9 (d := d_rest_groups) rfl,
   He.glo_ok X G (c.fact 24 rfl),
   c.def_ 10 (d := d_smallest_of) rfl,
   He.glo_ok X G (c.fact 25 rfl),
   c.def_ 11 (d := d_smallest) rfl,
   He.glo_ok X G (c.fact 26 rfl),
   c.def_ 12 (d := d_nothing) rfl,
   He.glo_ok X G (c.fact 27 rfl),
   c.def_ 13 (d := d_check_same_letters) rfl,
   He.glo_ok X G (c.fact 28 rfl),
   c.def_ 14 (d := d_step) rfl,
   He.glo_ok X G (c.fact 29 rfl),
   c.def_ 15 (d := d_first_difference) rfl,
   He.glo_ok X G (c.fact 30 rfl),
   c.def_ 16 (d := d_parting_word) rfl,
   He.glo_ok X G (c.fact 31 rfl),
   He.cls_ok (c.fact 32 rfl),
   He.mkr_ok (c.fact 33 rfl),
   He.noat_ok (c.fact 34 rfl),
   He.noat_ok (c.fact 35 rfl),
   He.noat_ok (c.fact 36 rfl),
   He.noat_ok (c.fact 37 rfl),
   c.def_ 17 (d := d_Teacher_init) rfl,
   c.def_ 18 (d := d_Teacher_holds) rfl,
   He.meth_ok (c.fact 38 rfl),
   c.def_ 19 (d := d_Teacher_refute) rfl,
   He.meth_ok (c.fact 39 rfl),
   He.glo_ok X G (c.fact 40 rfl),
   c.def_ 20 (d := d_Lstart) rfl,
   He.glo_ok X G (c.fact 41 rfl),
   c.def_ 21 (d := d_Lnext) rfl,
   He.glo_ok X G (c.fact 42 rfl),
   c.def_ 22 (d := d_Linteger) rfl,
   He.glo_ok X G (c.fact 43 rfl),
   c.def_ 23 (d := d_Lrows) rfl,
   He.glo_ok X G (c.fact 44 rfl),
   c.def_ 24 (d := d_Lheld) rfl,
   He.glo_ok X G (c.fact 45 rfl),
   c.def_ 25 (d := d_Lstep) rfl,
   He.glo_ok X G (c.fact 46 rfl),
   c.def_ 26 (d := d_Lparting) rfl,
   He.glo_ok X G (c.fact 47 rfl),
   c.def_ 27 (d := d_Lchanged) rfl,
   He.glo_ok X G (c.fact 48 rfl),
   c.def_ 28 (d := d_Lword) rfl,
   He.glo_ok X G (c.fact 49 rfl),
   c.def_ 29 (d := d_Lhidden) rfl,
   He.glo_ok X G (c.fact 50 rfl),
   c.def_ 30 (d := d_Ltwin) rfl,
   He.glo_ok X G (c.fact 51 rfl),
   c.def_ 31 (d := d_Lmade) rfl,
   He.glo_ok X G (c.fact 52 rfl),
   c.def_ 32 (d := d_Lguess) rfl,
   He.glo_ok X G (c.fact 53 rfl),
   c.def_ 33 (d := d_Lspoilt) rfl,
   He.glo_ok X G (c.fact 54 rfl),
   c.def_ 34 (d := d_Ldue) rfl,
   He.glo_ok X G (c.fact 55 rfl),
   c.def_ 35 (d := d_Lrefusal) rfl,
   He.glo_ok X G (c.fact 56 rfl),
   c.def_ 36 (d := d_Lholds) rfl,
   He.glo_ok X G (c.fact 57 rfl),
   c.def_ 37 (d := d_Lrefute) rfl,
   He.glo_ok X G (c.fact 58 rfl),
   c.def_ 38 (d := d_Lright) rfl,
   He.glo_ok X G (c.fact 59 rfl),
   c.def_ 39 (d := d_Lstate) rfl,
   He.glo_ok X G (c.fact 60 rfl),
   c.def_ 40 (d := d_law) rfl,
   He.free_ok X G (c.fact 67 rfl),
   He.free_ok X G (c.fact 68 rfl),
   He.free_ok X G (c.fact 69 rfl),
   He.free_ok X G (c.fact 70 rfl),
   He.free_ok X G (c.fact 71 rfl),
   He.free_ok X G (c.fact 72 rfl),
   He.free_ok X G (c.fact 73 rfl),
   He.free_ok X G (c.fact 74 rfl),
   He.free_ok X G (c.fact 75 rfl),
   He.free_ok X G (c.fact 76 rfl),
   He.free_ok X G (c.fact 77 rfl),
   He.free_ok X G (c.fact 78 rfl)⟩
abbrev R : PySem.W.OpenRow := PySem.W.OpenLaw.row PySem.Challenge.rw_fromyesalone_k71_teacher_by_model
def xa : List Xa := [.exg "BadLetters", .kit "BadLetters" "BadLetters" true, .kit "BadLetters" "BadWord" false, .kit "BadLetters" "TooMany" false, .kit "BadLetters" "BadKind" false, .exg "BadWord", .kit "BadWord" "BadLetters" false, .kit "BadWord" "BadWord" true, .kit "BadWord" "TooMany" false, .kit "BadWord" "BadKind" false]
def ds : List DefS := [u_BadWord]
theorem tq_of {K : PySem.W.Frag} {h : Heap} {mg : Str → Option Value} (X : K.In h) (G : h.Ns mainGlobals mg) (c : SaysX R.prog fa fn xa ds K) : Tq R.prog K mg :=
  ⟨tx_of X G c.d,
   exg_ok (c.fact 0 rfl),
   He.exm_ok (c.d.fact 61 rfl),
   kit_ok (c.fact 1 rfl),
   kit_ok (c.fact 2 rfl),
   kit_ok (c.fact 3 rfl),
   kit_ok (c.fact 4 rfl),
   He.exc_ok (c.d.fact 62 rfl),
   exg_ok (c.fact 5 rfl),
   He.exm_ok (c.d.fact 63 rfl),
   kit_ok (c.fact 6 rfl),
   kit_ok (c.fact 7 rfl),
   kit_ok (c.fact 8 rfl),
   kit_ok (c.fact 9 rfl),
   c.sup 0 (d := u_BadWord) rfl,
   He.eqO_ok (c.d.fact 64 rfl),
   He.eqO_ok (c.d.fact 65 rfl),
   He.free_ok X G (c.d.fact 66 rfl)⟩
abbrev hk : PySem.W.Hook := hookX R.prog 5 fa fn xa ds
def ob (s : PySem.W.SharedT) : AlX := obsXG R.prog 5 fa fn xa ds (HandSHeadRun.getT s)
theorem ob_eq (s : PySem.W.SharedT) : ob s = hk.obs s.abs := obsXG_eq (HandSHeadRun.getT_eq s)
theorem run (w : World) : HandSHeadRun.RunEq R (PySem.W.view R.prog [52]) hk ob 6000 loose w := by
  intro os
  kernel_rfl
end Fy

set_option Elab.async false
set_option linter.all false
set_option maxRecDepth 100000
set_option maxHeartbeats 4000000
namespace Fy
open PySem PySem.Spec PyProof.Rows L2
section
variable {P : Program} {w : World} {K : PySem.W.Frag} {mg : Str → Option Value} {base : Heap}
abbrev N_check_letters : List Str := ["letters", "before", "letter"]
theorem sc_check_letters : FnScope N_check_letters ["letters"] (defScope s_check_letters) := ⟨rfl, rfl, rfl, by decide +kernel, rfl, by decide +kernel, by decide +kernel⟩
def spCheckLetters : Sp := fun vs H Q _ => ∃ l : Str, vs = [.str l] ∧ LOk l ∧ Q .non H
theorem lt_line {n : Nat} (h : n ≤ 100000) : n ≤ sizeLine := Nat.le_trans h (by decide)
theorem ok_check_letters (T : Tx K mg) : Has P w K mg base CX0 1 (He.ga K "check_letters") ["letters"] spCheckLetters := by
  obtain ⟨t1, h_SMALL⟩ := T.h_SMALL
  obtain ⟨t2, h_MOST_KINDS_OF_LETTERS⟩ := T.h_MOST_KINDS_OF_LETTERS
  refine has_of T.f_check_letters sc_check_letters (fun _ _ _ _ _ _ us hl => match us, hl with | [_], _ => rfl) (fun vs H Q E h => ?_) (fun cdv A outer s H vs Q E hr h => ?_)
  · obtain ⟨l, rfl, _⟩ := h
    rfl
  · obtain ⟨l, rfl, ok, k⟩ := h
    have hl := len_cs l
    have hlt : l.length ≤ sizeLine := lt_line (by rw [hl]; have := ok.four; omega)
    refine ⟨_, (pss_cons (ps_if (PW.pt (pw_or (pt_cmpR op_lt (pe_callB call_len_str (by rfl) T.z_len PySem.boot_len (pa_cons (pv 0) pa_nil)) (pe_int) (nomark _)) (pw_or1 (pt_cmpR op_gt (pe_callB call_len_str (by rfl) T.z_len PySem.boot_len (pa_cons (pv 0) pa_nil)) (pe_glob (v := .int 4) rfl h_MOST_KINDS_OF_LETTERS ⟨_, rfl⟩) (nomark _)))))
    (pss_one (ps_never))
    (pss_nil))
    (pss_cons (ps_set (i := 1) sc_check_letters.nd rfl (Or.inl rfl) (pe_str))
    (pss_one (ps_for PassesOwn.never rfl (pi_str (pv 0)) (pg_name (i := 2) sc_check_letters.nd rfl (Or.inl rfl))
    (pss_cons (ps_if (PW.pt (pw_or (pt_cmpR op_notIn_sign (pv 2) (pe_glob (v := .str "abcdefghijklmnopqrstuvwxyz") rfl h_SMALL ⟨_, rfl⟩) (by rfl)) (pw_or1 (pt_cmpR op_le_str (pv 2) (pv 1) (nomark _)))))
      (pss_one (ps_never))
      (pss_nil))
      (pss_one (ps_set (i := 1) sc_check_letters.nd rfl (Or.inl rfl) (pv 2)))))))), ?_⟩
    refine ⟨_, rfl, _, rfl, hlt, _, _, rfl, rfl, _, rfl, ite2 (fun c => ?_) (fun _ => ?_)⟩
    · have := of_decide_eq_true c
      have := ok.pos
      omega
    refine ⟨_, rfl, _, rfl, hlt, _, _, rfl, rfl, _, rfl, ite2 (fun c => ?_) (fun _ => ?_)⟩
    · have := of_decide_eq_true c
      have := ok.four
      omega
    refine ⟨_, rfl, _, rfl, for_it walk_str (fun i σ H' => ∃ b v, σ = [some (.str l), some (.str b), v] ∧ H = H' ∧ (b = ("" : Str) ∧ i = 0 ∨ ∃ c, b = sg c ∧ 0 < i ∧ (cs l)[i - 1]? = some c)) ⟨_, _, rfl, rfl, .inl ⟨rfl, rfl⟩⟩ (fun _ _ _ _ _ => trivial) ?_ ?_⟩
    · rintro i x σ' H1 H2 hi ⟨b, v, rfl, e, hb⟩ ⟨rfl, c, hc, rfl⟩
      subst e
      have hc' : (cs l)[i]? = some c := by simpa using hc
      have hm : c ∈ cs l := List.mem_of_getElem? hc'
      obtain ⟨s1, s2⟩ := ok.small c hm
      refine ⟨_, rfl, c, _, rfl, rfl, _, rfl, ite2 (fun z => ?_) (fun _ => ?_)⟩
      · rw [decide_eq_true (small_in s1 s2)] at z; cases z
      refine ⟨_, rfl, _, rfl, _, _, rfl, rfl, _, rfl, ite2 (fun z => ?_) (fun _ => ?_)⟩
      · exfalso
        have z' : ¬ (b.cps.toList < (sg c).cps.toList) := by simpa using z
        apply z'
        rcases hb with ⟨rfl, rfl⟩ | ⟨d, rfl, h0, hd⟩
        · exact nil_lt_one
        · refine list_lt_one.mpr ?_
          have hi1 : i - 1 < (cs l).length := (List.getElem?_eq_some_iff.mp hd).1
          have hi2 : i < (cs l).length := (List.getElem?_eq_some_iff.mp hc').1
          have e1 : (cs l)[i - 1] = d := (List.getElem?_eq_some_iff.mp hd).2
          have e2 : (cs l)[i] = c := (List.getElem?_eq_some_iff.mp hc').2
          rw [← e1, ← e2]
          exact List.pairwise_iff_getElem.mp ok.asc _ _ hi1 hi2 (by omega)
      exact ⟨_, rfl, _, _, rfl, rfl, .inr ⟨c, rfl, Nat.succ_pos _, by simpa using hc'⟩⟩
    · rintro σ' H1 ⟨b, v, rfl, rfl, _⟩
      exact k
abbrev N_check_rows : List Str := ["letters", "arrows", "ends", "number", "row", "state", "before"]
theorem sc_check_rows : FnScope N_check_rows ["letters", "arrows", "ends"] (defScope s_check_rows) := ⟨rfl, rfl, rfl, by decide +kernel, rfl, by decide +kernel, by decide +kernel⟩
def spCheckRows : Sp := fun vs H Q _ => ∃ (l : Str) (aA aE : Addr) (rows : List (List Int)) (ends : List Int), vs = [.str l, .ref aA, .ref aE] ∧ Rows H aA rows ∧ Ints H aE ends ∧ (cs l).length ≤ 4 ∧ MOk (cs l).length rows ends ∧ ∀ H', Same H H' → Q .non H'
theorem ok_check_rows (T : Tx K mg) : Has P w K mg base CX0 1 (He.ga K "check_rows") ["letters", "arrows", "ends"] spCheckRows := by
  obtain ⟨t1, h_MOST_STATES⟩ := T.h_MOST_STATES
  refine has_of T.f_check_rows sc_check_rows (fun _ _ _ _ _ _ us hl => match us, hl with | [_, _, _], _ => rfl) (fun vs H Q E h => ?_) (fun cdv A outer s H vs Q E hr h => ?_)
  · obtain ⟨l, aA, aE, rows, ends, rfl, _⟩ := h
    rfl
  · obtain ⟨l, aA, aE, rows, ends, rfl, ⟨ps, hA, hR⟩, hE, l4, ok, k⟩ := h
    have hlen := hR.length
    have hll := len_cs l
    have p0 := ok.pos
    have p1 := ok.few
    have lm : (ps.map V.ref).length = rows.length := by rw [List.length_map, hlen]
    refine ⟨_, (pss_cons (ps_if (pt_cmpR op_eq (pe_callB call_lenQ (by rfl) T.z_len PySem.boot_len (pa_cons (pv 1) pa_nil)) (pe_int) (nomark _))
    (pss_one (ps_never))
    (pss_nil))
    (pss_cons (ps_if (pt_cmpR op_gt (pe_callB call_lenQ (by rfl) T.z_len PySem.boot_len (pa_cons (pv 1) pa_nil)) (pe_glob (v := .int 128) rfl h_MOST_STATES ⟨_, rfl⟩) (nomark _))
    (pss_one (ps_never))
    (pss_nil))
    (pss_cons (ps_for PassesOwn.never rfl (pi_enumQ (by rfl) T.z_enumerate (pa_cons (pv 1) pa_nil)) (pg_tup rfl (pgs_cons (pg_name (i := 3) sc_check_rows.nd rfl (Or.inl rfl)) (pgs_cons (pg_name (i := 4) sc_check_rows.nd rfl (Or.inl rfl)) pgs_nil)))
    (pss_cons (ps_if (pt_cmpR op_ne (pe_callB call_lenQ (by rfl) T.z_len PySem.boot_len (pa_cons (pv 4) pa_nil)) (pe_callB call_len_str (by rfl) T.z_len PySem.boot_len (pa_cons (pv 0) pa_nil)) (nomark _))
      (pss_one (ps_never))
      (pss_nil))
      (pss_one (ps_for PassesOwn.never rfl (pi_q (pv 4)) (pg_name (i := 5) sc_check_rows.nd rfl (Or.inl rfl))
      (pss_one (ps_if (PW.pt (pw_or (pt_cmpR op_lt (pv 5) (pe_un un_neg (pe_int)) (nomark _)) (pw_or1 (pt_cmpR op_ge (pv 5) (pe_callB call_lenQ (by rfl) T.z_len PySem.boot_len (pa_cons (pv 1) pa_nil)) (nomark _)))))
        (pss_one (ps_never))
        (pss_nil)))))))
    (pss_cons (ps_set (i := 6) sc_check_rows.nd rfl (Or.inl rfl) (pe_un un_neg (pe_int)))
    (pss_one (ps_for PassesOwn.never rfl (pi_q (pv 2)) (pg_name (i := 5) sc_check_rows.nd rfl (Or.inl rfl))
    (pss_cons (ps_if (PW.pt (pw_or (pt_cmpR op_le (pv 5) (pv 6) (nomark _)) (pw_or1 (pt_cmpR op_ge (pv 5) (pe_callB call_lenQ (by rfl) T.z_len PySem.boot_len (pa_cons (pv 1) pa_nil)) (nomark _)))))
      (pss_one (ps_never))
      (pss_nil))
      (pss_one (ps_set (i := 6) sc_check_rows.nd rfl (Or.inl rfl) (pv 5)))))))))), ?_⟩
    refine ⟨_, rfl, _, _, rfl, hA, rfl, _, rfl, ite2 (fun c => ?_) (fun _ => ?_)⟩
    · have := of_decide_eq_true c
      rw [lm] at this
      have := V.int.inj this
      omega
    refine ⟨_, rfl, _, _, rfl, hA, _, _, rfl, rfl, _, rfl, ite2 (fun c => ?_) (fun _ => ?_)⟩
    · have := of_decide_eq_true c
      rw [lm] at this
      omega
    refine ⟨_, rfl, for_enumQ hA (fun i σ H' => ∃ a b c, σ = [some (.str l), some (.ref aA), some (.ref aE), a, b, c, none] ∧ Same H H') ⟨_, _, _, rfl, Same.refl _⟩ (fun i σ' H' _ ⟨_, _, _, _, e⟩ o h => e _ _ h) ?_ ?_⟩
    · rintro i x σ' H1 H2 hi ⟨a, b, c, rfl, e1⟩ e2
      have e := e1.trans e2
      rw [List.getElem?_map] at hi
      cases hp : ps[i]? with
      | none => rw [hp] at hi; cases hi
      | some p =>
        rw [hp] at hi
        cases hi
        have hir : i < rows.length := by rw [← hlen]; exact (List.getElem?_eq_some_iff.mp hp).1
        obtain ⟨p', hp', hr⟩ := All2.get hR (List.getElem?_eq_getElem hir)
        rw [hp] at hp'; cases hp'
        obtain ⟨w1, w2⟩ := ok.wide _ (List.getElem_mem hir)
        generalize rows[i] = r at hr w1 w2
        have hrH := hr.mono e
        refine ⟨_, rfl, _, _, rfl, hrH, _, rfl, _, rfl, lt_line (by omega), rfl, _, rfl, ite2 (fun z => ?_) (fun _ => ?_)⟩
        · rw [List.length_map, w1, hll] at z
          simp at z
        refine ⟨_, rfl, for_q hrH (fun i' σ H' => ∃ c, σ = [some (.str l), some (.ref aA), some (.ref aE), some (.int (i : Nat)), some (.ref p), c, none] ∧ H' = H2) ⟨_, rfl, rfl⟩ (fun _ _ _ _ ⟨_, _, e⟩ o h => by rw [e]; exact h) ?_ ?_⟩
        · rintro j y σ2 H3 hj ⟨c', rfl, rfl⟩
          rw [List.getElem?_map] at hj
          cases hz : r[j]? with
          | none => rw [hz] at hj; cases hj
          | some z =>
            rw [hz] at hj
            cases hj
            obtain ⟨z0, z1⟩ := w2 z (List.mem_of_getElem? hz)
            refine ⟨_, rfl, _, rfl, _, _, rfl, rfl, _, rfl, ite2 (fun c => ?_) (fun _ => ?_)⟩
            · have := of_decide_eq_true c; omega
            refine ⟨_, rfl, _, rfl, _, _, rfl, Sq.mono e hA, _, _, rfl, rfl, _, rfl, ite2 (fun c => ?_) (fun _ => ⟨_, rfl, rfl⟩)⟩
            have := of_decide_eq_true c
            rw [lm] at this
            omega
        · rintro σ2 H3 ⟨c', rfl, rfl⟩
          exact ⟨_, _, _, rfl, e⟩
    · rintro σ' H1 ⟨a, b, c, rfl, e⟩
      refine ⟨_, rfl, _, rfl, for_q (hE.mono e) (fun i σ H' => ∃ (c : Option V) (bf : Int), σ = [some (.str l), some (.ref aA), some (.ref aE), a, b, c, some (.int bf)] ∧ H' = H1 ∧ ((i = 0 ∧ bf = -1) ∨ (0 < i ∧ ends[i - 1]? = some bf))) ⟨_, _, rfl, rfl, .inl ⟨rfl, rfl⟩⟩ (fun _ _ _ _ ⟨_, _, _, e, _⟩ o h => by rw [e]; exact h) ?_ ?_⟩
      · rintro j y σ2 H3 hj ⟨c', bf, rfl, rfl, hb⟩
        rw [List.getElem?_map] at hj
        cases hz : ends[j]? with
        | none => rw [hz] at hj; cases hj
        | some z =>
          rw [hz] at hj
          cases hj
          obtain ⟨z0, z1⟩ := ok.inn z (List.mem_of_getElem? hz)
          have hlt : bf < z := by
            rcases hb with ⟨_, rfl⟩ | ⟨h0, hb⟩
            · omega
            · have hi1 : j - 1 < ends.length := (List.getElem?_eq_some_iff.mp hb).1
              have hi2 : j < ends.length := (List.getElem?_eq_some_iff.mp hz).1
              rw [← (List.getElem?_eq_some_iff.mp hb).2, ← (List.getElem?_eq_some_iff.mp hz).2]
              exact List.pairwise_iff_getElem.mp ok.asc _ _ hi1 hi2 (by omega)
          refine ⟨_, rfl, _, rfl, _, _, rfl, rfl, _, rfl, ite2 (fun c => ?_) (fun _ => ?_)⟩
          · have := of_decide_eq_true c; omega
          refine ⟨_, rfl, _, rfl, _, _, rfl, Sq.mono e hA, _, _, rfl, rfl, _, rfl, ite2 (fun c => ?_) (fun _ => ?_)⟩
          · have := of_decide_eq_true c
            rw [lm] at this
            omega
          exact ⟨_, rfl, _, _, rfl, rfl, .inr ⟨Nat.succ_pos _, by simpa using hz⟩⟩
      · rintro σ2 H3 ⟨c', bf, rfl, rfl, _⟩
        exact k _ e
end
end Fy

set_option Elab.async false
set_option linter.all false
set_option maxRecDepth 100000
set_option maxHeartbeats 4000000
namespace Fy
open PySem PySem.Spec PyProof.Rows L2
section
variable {P : Program} {w : World} {K : PySem.W.Frag} {mg : Str → Option Value} {base : Heap}
abbrev CM (K : PySem.W.Frag) : Addr := He.ga K "Machine"
abbrev N_Machine_init : List Str := ["self", "letters", "arrows", "ends", "row"]
theorem sc_Machine_init : FnScope N_Machine_init ["self", "letters", "arrows", "ends"] (defScope s_Machine_init) := ⟨rfl, rfl, rfl, by decide +kernel, rfl, by decide +kernel, by decide +kernel⟩
def spMInit (C : Addr) : Sp := fun vs H Q _ => ∃ (H0 : Hp) (x dx : Addr) (l : Str) (aA aE : Addr) (rows : List (List Int)) (ends : List Int), vs = [.ref x, .str l, .ref aA, .ref aE] ∧ Same H0 H ∧ H0 x = none ∧ H x = some (.ins C dx []) ∧
  Rows H0 aA rows ∧ Ints H0 aE ends ∧ LOk l ∧ MOk (cs l).length rows ends ∧ ∀ H', Same H0 H' → MachAt C H' x l rows ends → Q .non H'
theorem ok_Machine_init (T : Tx K mg) : Has P w K mg base CX0 2 (He.ma K (CM K) "__init__") ["self", "letters", "arrows", "ends"] (spMInit (CM K)) := by
  have G_check_letters := ok_check_letters (P := P) (w := w) (base := base) T
  have G_check_rows := ok_check_rows (P := P) (w := w) (base := base) T
  refine has_of T.f_Machine_init sc_Machine_init (fun _ _ _ _ _ _ us hl => match us, hl with | [_, _, _, _], _ => rfl) (fun vs H Q E h => ?_) (fun cdv A outer s H vs Q E hr h => ?_)
  · obtain ⟨H0, x, dx, l, aA, aE, rows, ends, rfl, _⟩ := h
    rfl
  · obtain ⟨H0, x, dx, l, aA, aE, rows, ends, rfl, e0, nx, hx, hA, hE, lo, mo, k⟩ := h
    refine ⟨_, (pss_cons (ps_expr (pe_c G_check_letters (hr.mono (by decide)) T.g_check_letters (pa_cons (pv 1) pa_nil)))
    (pss_cons (ps_expr (pe_c G_check_rows (hr.mono (by decide)) T.g_check_rows (pa_cons (pv 1) (pa_cons (pv 2) (pa_cons (pv 3) pa_nil)))))
    (pss_cons (ps_fld (pv 0) (pv 1) rfl)
    (pss_cons (ps_fld (pv 0) (pe_callTy call_tupQ (by rfl) T.z_tuple (by decide +kernel) (pa_cons (pe_lc (own := [("row", 4)]) rfl sc_Machine_init.nd (pi_q (pv 2)) (blkOk_by (own := [("row", 4)]) (N := N_Machine_init) (sc := defScope s_Machine_init) (by decide +kernel)) (fun _ _ _ _ _ => pg_name (i := 4) sc_Machine_init.nd rfl (Or.inl rfl)) (fun _ _ _ _ _ => pts_nil) (fun _ _ _ _ _ => pe_callTy call_tupQ (by rfl) T.z_tuple (by decide +kernel) (pa_cons (pv 4) pa_nil))) pa_nil)) rfl)
    (pss_one (ps_fld (pv 0) (pe_callTy call_tupQ (by rfl) T.z_tuple (by decide +kernel) (pa_cons (pv 3) pa_nil)) rfl)))))), ?_⟩
    refine ⟨_, rfl, l, rfl, lo, ?_⟩
    refine ⟨_, rfl, _, rfl, _, rfl, l, aA, aE, rows, ends, rfl, hA.mono e0, hE.mono e0, lo.four, mo, fun H1 e1 => ?_⟩
    have hx1 := e1 _ _ hx
    have e01 := e0.trans e1
    -- self.letters = letters
    refine ⟨_, rfl, _, rfl, x, _, dx, _, rfl, hx1, T.c_Machine, T.n_Machine_letters, (by show 0 < 1000; decide), ?_⟩
    -- self.arrows = tuple([tuple(row) for row in arrows])
    have e2 : Same H0 (upd H1 x (.ins (CM K) dx (putF "letters" (.str l) []))) := sm_mut e01 nx
    have hx2 : (upd H1 x (.ins (CM K) dx (putF "letters" (.str l) []))) x = some (.ins (CM K) dx (putF "letters" (.str l) [])) := upd_same
    generalize (upd H1 x (.ins (CM K) dx (putF "letters" (.str l) []))) = H2 at e2 hx2
    obtain ⟨ps, hS, hR⟩ := hA
    have hlen := hR.length
    refine ⟨_, rfl, lc_q (K := K) (hS.mono e2) (fun D i H' => Same H2 H' ∧ H2 D = none ∧ ∃ qs : List Addr, H' D = some (.lst (qs.map V.ref)) ∧ All2 (fun p r => H' p = some (.tup (r.map V.int))) qs (rows.take i)) (fun D hD => ⟨sm_new hD, hD, [], upd_same, trivial⟩) (fun D i H' _ p o h => p.1 _ _ h) ?_ ?_⟩
    · rintro D i v H' hD hi ⟨e3, _, qs, hqs, hq2⟩
      rw [List.getElem?_map] at hi
      cases hp : ps[i]? with
      | none => rw [hp] at hi; cases hi
      | some p =>
        rw [hp] at hi
        cases hi
        have hir : i < rows.length := by rw [← hlen]; exact (List.getElem?_eq_some_iff.mp hp).1
        obtain ⟨p', hp', hr⟩ := All2.get hR (List.getElem?_eq_getElem hir)
        rw [hp] at hp'; cases hp'
        refine ⟨rfl, _, rfl, _, _, rfl, Sq.mono (e2.trans e3) hr, fun q H4 e4 hq => ⟨_, e4 _ _ hqs, ?_, ?_, hD, qs ++ [q], ?_, ?_⟩⟩
        · rw [List.length_map, hq2.length, List.length_take]
          exact lt_line (n := _ + 1) (by have := mo.few; omega)
        · exact sm_mut (e3.trans e4) hD
        · rw [upd_same, List.map_append]; rfl
        · rw [List.take_add_one, List.getElem?_eq_getElem hir]
          refine All2.snoc (All2.imp (fun a b z => ?_) hq2) ?_
          · rw [upd_ne (ne_of (e4 _ _ z) (e4 _ _ hqs) (by intro z; cases z))]; exact e4 _ _ z
          · rw [upd_ne (ne_of hq (e4 _ _ hqs) (by intro z; cases z))]; exact hq
    · rintro D H3 hD ⟨e3, _, qs, hqs, hq2⟩
      rw [List.length_map, hlen, List.take_length] at hq2
      refine ⟨_, _, rfl, .l hqs, fun a H4 e4 ha => ?_⟩
      have hx4 := e4 _ _ (e3 _ _ hx2)
      refine ⟨_, rfl, x, _, dx, _, rfl, hx4, T.c_Machine, T.n_Machine_arrows, (by have := length_putF "letters" (.str l) []; show _ < 1000; exact Nat.lt_of_le_of_lt this (by decide)), ?_⟩
      have e5 : Same H0 (upd H4 x (.ins (CM K) dx (putF "arrows" (.ref a) (putF "letters" (.str l) [])))) := sm_mut (e2.trans (e3.trans e4)) nx
      refine ⟨_, rfl, _, _, rfl, hE.mono e5, fun b H6 e6 hb => ?_⟩
      have hx6 := e6 _ _ (upd_same (H := H4) (a := x) (o := .ins (CM K) dx (putF "arrows" (.ref a) (putF "letters" (.str l) []))))
      refine ⟨_, rfl, x, _, dx, _, rfl, hx6, T.c_Machine, T.n_Machine_ends, ?_, ?_⟩
      · have h1 := length_putF "letters" (.str l) []
        have h2 := length_putF "arrows" (.ref a) (putF "letters" (.str l) [])
        rw [List.length_nil] at h1
        exact Nat.lt_of_le_of_lt (Nat.le_trans h2 (Nat.add_le_add_right h1 1)) (by decide)
      · have na : a ≠ x := ne_of ha hx4 (by intro z; cases z)
        have nb : b ≠ x := ne_of hb hx6 (by intro z; cases z)
        have a6 : H6 a = some (.tup (qs.map V.ref)) := e6 _ _ (by rw [upd_ne na]; exact ha)
        have na6 : a ≠ x := na
        refine k _ (sm_mut (e5.trans e6) nx) ⟨dx, a, b, upd_same, ⟨qs, by rw [upd_ne na]; exact a6, All2.imp (fun p r z => ?_) hq2⟩, by rw [upd_ne nb]; exact hb⟩
        have np : p ≠ x := ne_of (e4 _ _ z) hx4 (by intro z; cases z)
        rw [upd_ne np]
        exact e6 _ _ (by rw [upd_ne np]; exact e4 _ _ z)
end
end Fy

set_option Elab.async false
set_option linter.all false
set_option maxRecDepth 100000
set_option maxHeartbeats 4000000
namespace Fy
open PySem PySem.Spec PyProof.Rows L2
section
variable {P : Program} {w : World} {K : PySem.W.Frag} {mg : Str → Option Value} {base : Heap}
theorem getLast_app {α : Type} {ws : List α} {s : α} (f : α → V) : ((ws ++ [s]).map f)[((ws ++ [s]).map f).length - 1]? = some (f s) := by
  rw [List.map_append, List.length_append]
  show (ws.map f ++ [f s])[(ws.map f).length + 1 - 1]? = _
  rw [Nat.add_sub_cancel, List.getElem?_append_right (Nat.le_refl _), Nat.sub_self]; rfl
theorem dropLast_app {α : Type} {ws : List α} {s : α} (f : α → V) : ((ws ++ [s]).map f).dropLast = ws.map f := by
  rw [List.map_append]; show (ws.map f ++ [f s]).dropLast = _
  rw [List.dropLast_concat]
abbrev N_reached_states : List Str := ["arrows", "reached", "waiting", "state", "target", "_"]
theorem sc_reached_states : FnScope N_reached_states ["arrows"] (defScope s_reached_states) := ⟨rfl, rfl, rfl, by decide +kernel, rfl, by decide +kernel, by decide +kernel⟩
def spReached : Sp := fun vs H Q _ => ∃ (aA : Addr) (rows : List (List Int)), vs = [.ref aA] ∧ Rows H aA rows ∧ ROk rows ∧ rows.length ≤ 1000 ∧
  ∀ H' p bs, Same H H' → H' p = some (.lst (bs.map V.bl)) → Reach rows bs → Q (.ref p) H'
theorem ok_reached_states (T : Tx K mg) : Has P w K mg base CX0 1 (He.ga K "reached_states") ["arrows"] spReached := by
  refine has_of T.f_reached_states sc_reached_states (fun _ _ _ _ _ _ us hl => match us, hl with | [_], _ => rfl) (fun vs H Q E h => ?_) (fun cdv A outer s H vs Q E hr h => ?_)
  · obtain ⟨aA, rows, rfl, _⟩ := h
    rfl
  · obtain ⟨aA, rows, rfl, hA, ok, h1000, k⟩ := h
    have p0 := ok.pos
    obtain ⟨xsA, hS, hSl⟩ := hA.len
    refine ⟨_, (pss_cons (ps_setLc (i := 1) (own := [("_", 5)]) rfl sc_reached_states.nd rfl rfl (sw_true rfl rfl rfl (by decide +kernel)) (pi_q (pv 0)) (blkOk_by (own := [("_", 5)]) (N := N_reached_states) (sc := defScope s_reached_states) (by decide +kernel)) (fun _ _ _ _ _ => pg_name (i := 5) sc_reached_states.nd rfl (Or.inl rfl)) (fun _ _ _ _ _ => pts_nil) (fun _ _ _ _ _ => pe_bl))
    (pss_cons (ps_asg (pe_bl) (pg_sub (pv 1) (pe_int) set_list))
    (pss_cons (ps_set (i := 2) sc_reached_states.nd rfl (Or.inl rfl) (pe_lst (pa_cons (pe_int) pa_nil)))
    (pss_cons (ps_while PassesOwn.never (pt_cmpR op_gt (pe_callB call_lenQ (by rfl) T.z_len PySem.boot_len (pa_cons (pv 2) pa_nil)) (pe_int) (nomark _))
    (pss_cons (ps_set (i := 3) sc_reached_states.nd rfl (Or.inl rfl) (pe_bm0 PySem.F.plainAttrs_list PySem.F.slot_list_pop PySem.F.type_list_pop mt_pop (pv 2)))
      (pss_one (ps_for PassesOwn.never rfl (pi_q (pe_ix ix_q (pv 0) (pv 3) (fun _ _ => rfl))) (pg_name (i := 4) sc_reached_states.nd rfl (Or.inl rfl))
      (pss_one (ps_if (PW.pt (pw_and (pt_cmpR op_ge (pv 4) (pe_int) (nomark _)) (pw_and1 (pt_not (pt_val (pe_ix ix_q (pv 1) (pv 4) (fun _ _ => rfl)))))))
        (pss_cons (ps_asg (pe_bl) (pg_sub (pv 1) (pv 4) set_list))
          (pss_one (ps_expr (pe_bm PySem.F.plainAttrs_list PySem.F.slot_list_append PySem.F.type_list_append mt_append (pv 2) (pa_cons (pv 4) pa_nil)))))
        (pss_nil)))))))
    (pss_one (ps_ret (pv 1))))))), ?_⟩
    -- reached = [False for _ in arrows]
    refine ⟨_, rfl, lc_q (K := K) hS (fun D i H' => Same H H' ∧ H D = none ∧ H' D = some (.lst ((List.replicate i false).map V.bl))) (fun D hD => ⟨sm_new hD, hD, upd_same⟩) (fun D i H' _ p o h => p.1 _ _ h) ?_ ?_⟩
    · rintro D i v H' hD hi ⟨e, _, hd⟩
      have hlt : i < 1000 := by have := (List.getElem?_eq_some_iff.mp hi).1; omega
      refine ⟨rfl, _, hd, by rw [List.length_map, List.length_replicate]; exact Nat.lt_of_lt_of_le hlt (by decide), sm_mut e hD, hD, ?_⟩
      rw [upd_same, List.replicate_succ', List.map_append]; rfl
    · rintro D H1 hD ⟨e1, _, hd⟩
      rw [hSl] at hd
      -- reached[0] = True; waiting = [0]
      have hl0 : (List.replicate rows.length false).length = rows.length := List.length_replicate
      refine ⟨_, rfl, _, _, _, 0, rfl, rfl, hd, (by refine ixN_int (by decide) ?_; rw [List.length_map, hl0]; exact p0), ?_⟩
      rw [map_set_bl]
      refine ⟨by show 1 ≤ sizeLine; decide, fun wt hwt => ?_⟩
      have hnw : H wt = none := (sm_mut e1 hD).free hwt
      have hDw : D ≠ wt := ne_of_none upd_same hwt
      -- while
      refine ⟨fun m σ H' => ∃ (bs : List Bool) (ws : List Int) (v3 v4 : Option V), σ = [some (.ref aA), some (.ref D), some (.ref wt), v3, v4, none] ∧ Same H H' ∧ H' D = some (.lst (bs.map V.bl)) ∧ H' wt = some (.lst (ws.map V.int)) ∧
        RI rows bs ws (-1) ∧ ws.length + nF bs ≤ rows.length ∧ m = 2 * nF bs + ws.length, ⟨_, (List.replicate rows.length false).set 0 true, [0], none, none, rfl, sm_laid (sm_mut e1 hD) hwt, by rw [upd_ne hDw]; exact upd_same, upd_same, ?_, ?_, rfl⟩, ?_⟩
      · refine ⟨by rw [List.length_set, hl0], ?_, fun s hs => ?_, fun q q0 q1 hb => ?_⟩
        · rw [gb_set]; simp [p0]
        · rw [List.mem_singleton.mp hs]; omega
        · rw [gb_set] at hb
          rcases Bool.or_eq_true_iff.mp hb with hb | hb
          · unfold gb at hb
            rw [List.getD_eq_getElem?_getD, List.getElem?_replicate] at hb
            split at hb <;> simp at hb
          · have := (of_decide_eq_true hb).1
            exact .inl (List.mem_singleton.mpr (by omega))
      · have h1 := nF_set (List.replicate rows.length false) 0 (by rw [List.getElem?_replicate, if_pos p0])
        have h2 : nF (List.replicate rows.length false) ≤ rows.length := by have := List.countP_le_length (p := fun b => !b) (l := List.replicate rows.length false); rw [hl0] at this; exact this
        show 1 + _ ≤ _
        omega
      · rintro m σ' H2 ⟨bs, ws, v3, v4, rfl, e2, hD2, hW2, ri, hsz, rfl⟩
        refine ⟨_, rfl, _, _, rfl, .l hW2, _, _, rfl, rfl, _, rfl, ite2 (fun c => ?_) (fun c => ?_)⟩
        · have hpos := of_decide_eq_true c
          rw [List.length_map] at hpos
          obtain ⟨ws', s0, rfl⟩ : ∃ ws' s0, ws = ws' ++ [s0] := by
            rcases List.eq_nil_or_concat ws with z | ⟨a, b, z⟩
            · rw [z] at hpos; simp at hpos
            · exact ⟨a, b, by rw [z, List.concat_eq_append]⟩
          obtain ⟨s0n, s0l⟩ := ri.inn s0 (List.mem_append_right _ (List.mem_singleton.mpr rfl))
          refine ⟨fun σ2 H3 => ∃ m', m' < 2 * nF bs + (ws' ++ [s0]).length ∧ ∃ (bs : List Bool) (ws : List Int) (v3 v4 : Option V), σ2 = [some (.ref aA), some (.ref D), some (.ref wt), v3, v4, none] ∧ Same H H3 ∧ H3 D = some (.lst (bs.map V.bl)) ∧ H3 wt = some (.lst (ws.map V.int)) ∧
            RI rows bs ws (-1) ∧ ws.length + nF bs ≤ rows.length ∧ m' = 2 * nF bs + ws.length, fun _ _ h => h, ?_⟩
          -- state = waiting.pop()
          refine ⟨_, rfl, .inl ⟨rfl, _, .of hW2⟩, wt, _, _, rfl, rfl, hW2, getLast_app _, ?_⟩
          rw [dropLast_app]
          have hD3 : upd H2 wt (.lst (ws'.map V.int)) D = some (.lst (bs.map V.bl)) := by rw [upd_ne hDw]; exact hD2
          have e3 : Same H (upd H2 wt (.lst (ws'.map V.int))) := sm_mut e2 hnw
          have hW3 : upd H2 wt (.lst (ws'.map V.int)) wt = some (.lst (ws'.map V.int)) := upd_same
          have riP := ri.pop
          rw [List.length_append, List.length_singleton] at hsz
          rw [List.length_append, List.length_singleton]
          generalize upd H2 wt (.lst (ws'.map V.int)) = H3 at hD3 e3 hW3
          obtain ⟨p, xs, hSq, hat, hrow⟩ := hA.item s0n s0l
          -- for target in arrows[state]
          refine ⟨_, rfl, _, rfl, _, _, _, _, rfl, rfl, hSq.mono e3, hat, for_q (Sq.mono e3 hrow) (fun i σ H' => ∃ (bs' : List Bool) (ws2 : List Int) (v4 : Option V), σ = [some (.ref aA), some (.ref D), some (.ref wt), some (.int s0), v4, none] ∧ Same H H' ∧ H' D = some (.lst (bs'.map V.bl)) ∧ H' wt = some (.lst (ws2.map V.int)) ∧
            RI rows bs' ws2 s0 ∧ ws2.length + nF bs' ≤ rows.length ∧ 2 * nF bs' + ws2.length ≤ 2 * nF bs + ws'.length ∧ ∀ t ∈ (tg rows s0).take i, 0 ≤ t → gb bs' t = true) ⟨bs, ws', _, rfl, e3, hD3, hW3, riP, by omega, Nat.le_refl _, fun t ht => by simp at ht⟩ (fun i σ' H' _ ⟨_, _, _, _, e, _⟩ => keep_of hrow e3 e) ?_ ?_⟩
          · rintro i v σ2 H4 hi ⟨bs', ws2, v4', rfl, e4, hD4, hW4, ri4, hsz4, hm4, hcl⟩
            obtain ⟨t, ht, rfl⟩ := int_item hi
            obtain ⟨t0, t1⟩ := ok.inn _ (tg_mem (rows := rows) (q := s0) (by omega)) t (List.mem_of_getElem? ht)
            have tk : (tg rows s0).take (i + 1) = (tg rows s0).take i ++ [t] := by rw [List.take_add_one, ht]; rfl
            refine ⟨_, rfl, _, _, rfl, rfl, _, rfl, ite2 (fun c1 => ?_) (fun c1 => ?_)⟩
            · have c1' := of_decide_eq_true c1
              have tlt : t.toNat < bs'.length := by rw [ri4.len]; omega
              refine ⟨_, rfl, _, rfl, _, _, _, _, rfl, rfl, .l hD4, atI_gb c1' (by omega), _, rfl, ite2 (fun c2 => ?_) (fun c2 => ?_)⟩
              · have c2' : gb bs' t = false := by simpa using c2
                refine ⟨_, rfl, _, rfl, _, _, _, t.toNat, rfl, rfl, hD4, ixN_int c1' (by rw [List.length_map]; exact tlt), ?_⟩
                rw [map_set_bl]
                have hW5 : upd H4 D (.lst ((bs'.set t.toNat true).map V.bl)) wt = some (.lst (ws2.map V.int)) := by rw [upd_ne (Ne.symm hDw)]; exact hW4
                refine ⟨_, rfl, .inl ⟨rfl, _, .of hW5⟩, _, rfl, _, _, _, rfl, rfl, hW5, ?_, ?_⟩
                · rw [List.length_map]; exact Nat.lt_of_le_of_lt (by omega : ws2.length ≤ 1000) (by decide)
                · have hn := nF_set bs' t.toNat (gb_false tlt c2')
                  refine ⟨bs'.set t.toNat true, ws2 ++ [t], some (.int t), rfl, sm_mut (sm_mut e4 hD) hnw, by rw [upd_ne hDw]; exact upd_same, by rw [upd_same, List.map_append]; rfl, ri4.push c1' t1, by rw [List.length_append, List.length_singleton]; omega, by rw [List.length_append, List.length_singleton]; omega, fun u hu u0 => ?_⟩
                  rw [tk] at hu
                  rcases List.mem_append.mp hu with hu | hu
                  · exact gb_mono _ _ _ (hcl u hu u0)
                  · rw [List.mem_singleton.mp hu]; exact gb_same _ _ tlt
              · have c2' : gb bs' t = true := by simpa using c2
                refine ⟨bs', ws2, some (.int t), rfl, e4, hD4, hW4, ri4, hsz4, hm4, fun u hu u0 => ?_⟩
                rw [tk] at hu
                rcases List.mem_append.mp hu with hu | hu
                · exact hcl u hu u0
                · rw [List.mem_singleton.mp hu]; exact c2'
            · have c1' : ¬ 0 ≤ t := fun z => c1 (decide_eq_true z)
              refine ⟨bs', ws2, some (.int t), rfl, e4, hD4, hW4, ri4, hsz4, hm4, fun u hu u0 => ?_⟩
              rw [tk] at hu
              rcases List.mem_append.mp hu with hu | hu
              · exact hcl u hu u0
              · rw [List.mem_singleton.mp hu] at u0; exact absurd u0 c1'
          · rintro σ2 H4 ⟨bs', ws2, v4', rfl, e4, hD4, hW4, ri4, hsz4, hm4, hcl⟩
            rw [List.length_map, List.take_length] at hcl
            exact ⟨2 * nF bs' + ws2.length, by omega, bs', ws2, _, _, rfl, e4, hD4, hW4, ri4.close hcl, hsz4, rfl⟩
        · have hz : ws = [] := by
            have : ¬ (0 : Int) < (ws.map V.int).length := fun z => c (decide_eq_true z)
            rw [List.length_map] at this
            cases ws with
            | nil => rfl
            | cons a b => simp at this
          subst hz
          exact ⟨_, rfl, k _ _ _ e2 hD2 ri.done⟩
end
end Fy

set_option Elab.async false
set_option linter.all false
set_option maxRecDepth 100000
set_option maxHeartbeats 4000000
namespace Fy
open PySem PySem.Spec PyProof.Rows L2
section
variable {P : Program} {w : World} {K : PySem.W.Frag} {mg : Str → Option Value} {base : Heap}
abbrev N_living_states : List Str := ["arrows", "ends", "sources", "state", "row", "target", "living", "waiting", "source", "_"]
theorem sc_living_states : FnScope N_living_states ["arrows", "ends"] (defScope s_living_states) := ⟨rfl, rfl, rfl, by decide +kernel, rfl, by decide +kernel, by decide +kernel⟩
def spLiving : Sp := fun vs H Q _ => ∃ (aA aE : Addr) (rows : List (List Int)) (ends : List Int), vs = [.ref aA, .ref aE] ∧ Rows H aA rows ∧ Ints H aE ends ∧ ROk rows ∧ rows.length ≤ 1000 ∧ ends.length ≤ 1000 ∧ (∀ e ∈ ends, 0 ≤ e ∧ e < rows.length) ∧
  ∀ H' p bs, Same H H' → H' p = some (.lst (bs.map V.bl)) → Live rows ends bs → Q (.ref p) H'
theorem ok_living_states (T : Tx K mg) : Has P w K mg base CX0 1 (He.ga K "living_states") ["arrows", "ends"] spLiving := by
  refine has_of T.f_living_states sc_living_states (fun _ _ _ _ _ _ us hl => match us, hl with | [_, _], _ => rfl) (fun vs H Q E h => ?_) (fun cdv A outer s H vs Q E hr h => ?_)
  · obtain ⟨aA, aE, rows, ends, rfl, _⟩ := h
    rfl
  · obtain ⟨aA, aE, rows, ends, rfl, hA, hE, ok, h1000, e1000, hei, k⟩ := h
    have p0 := ok.pos
    obtain ⟨xsA, hS, hSl⟩ := hA.len
    refine ⟨_, (pss_cons (ps_setLc (i := 2) (own := [("_", 9)]) rfl sc_living_states.nd rfl rfl (sw_true rfl rfl rfl (by decide +kernel)) (pi_q (pv 0)) (blkOk_by (own := [("_", 9)]) (N := N_living_states) (sc := defScope s_living_states) (by decide +kernel)) (fun _ _ _ _ _ => pg_name (i := 9) sc_living_states.nd rfl (Or.inl rfl)) (fun _ _ _ _ _ => pts_nil) (fun _ _ _ _ _ => pe_lst pa_nil))
    (pss_cons (ps_for PassesOwn.never rfl (pi_enumQ (by rfl) T.z_enumerate (pa_cons (pv 0) pa_nil)) (pg_tup rfl (pgs_cons (pg_name (i := 3) sc_living_states.nd rfl (Or.inl rfl)) (pgs_cons (pg_name (i := 4) sc_living_states.nd rfl (Or.inl rfl)) pgs_nil)))
    (pss_one (ps_for PassesOwn.never rfl (pi_q (pv 4)) (pg_name (i := 5) sc_living_states.nd rfl (Or.inl rfl))
      (pss_one (ps_if (pt_cmpR op_ge (pv 5) (pe_int) (nomark _))
        (pss_one (ps_expr (pe_bm PySem.F.plainAttrs_list PySem.F.slot_list_append PySem.F.type_list_append mt_append (pe_ix ix_q (pv 2) (pv 5) (fun _ _ => rfl)) (pa_cons (pv 3) pa_nil))))
        (pss_nil))))))
    (pss_cons (ps_setLc (i := 6) (own := [("_", 9)]) rfl sc_living_states.nd rfl rfl (sw_true rfl rfl rfl (by decide +kernel)) (pi_q (pv 0)) (blkOk_by (own := [("_", 9)]) (N := N_living_states) (sc := defScope s_living_states) (by decide +kernel)) (fun _ _ _ _ _ => pg_name (i := 9) sc_living_states.nd rfl (Or.inl rfl)) (fun _ _ _ _ _ => pts_nil) (fun _ _ _ _ _ => pe_bl))
    (pss_cons (ps_for PassesOwn.never rfl (pi_q (pv 1)) (pg_name (i := 3) sc_living_states.nd rfl (Or.inl rfl))
    (pss_one (ps_asg (pe_bl) (pg_sub (pv 6) (pv 3) set_list))))
    (pss_cons (ps_set (i := 7) sc_living_states.nd rfl (Or.inl rfl) (pe_callTy call_listQ (by rfl) T.z_list (by decide +kernel) (pa_cons (pv 1) pa_nil)))
    (pss_cons (ps_while PassesOwn.never (pt_cmpR op_gt (pe_callB call_lenQ (by rfl) T.z_len PySem.boot_len (pa_cons (pv 7) pa_nil)) (pe_int) (nomark _))
    (pss_cons (ps_set (i := 3) sc_living_states.nd rfl (Or.inl rfl) (pe_bm0 PySem.F.plainAttrs_list PySem.F.slot_list_pop PySem.F.type_list_pop mt_pop (pv 7)))
      (pss_one (ps_for PassesOwn.never rfl (pi_q (pe_ix ix_q (pv 2) (pv 3) (fun _ _ => rfl))) (pg_name (i := 8) sc_living_states.nd rfl (Or.inl rfl))
      (pss_one (ps_if (pt_not (pt_val (pe_ix ix_q (pv 6) (pv 8) (fun _ _ => rfl))))
        (pss_cons (ps_asg (pe_bl) (pg_sub (pv 6) (pv 8) set_list))
          (pss_one (ps_expr (pe_bm PySem.F.plainAttrs_list PySem.F.slot_list_append PySem.F.type_list_append mt_append (pv 7) (pa_cons (pv 8) pa_nil)))))
        (pss_nil)))))))
    (pss_one (ps_ret (pv 6))))))))), ?_⟩
    -- sources = [[] for _ in arrows]
    refine ⟨_, rfl, lc_q (K := K) hS (fun D i H' => Same H H' ∧ H D = none ∧ ∃ qs : List Addr, H' D = some (.lst (qs.map V.ref)) ∧ qs.Nodup ∧ (∀ q ∈ qs, H q = none ∧ q ≠ D) ∧ All2 (fun q s => H' q = some (.lst (s.map V.int))) qs (List.replicate i [])) (fun D hD => ⟨sm_new hD, hD, [], upd_same, List.nodup_nil, fun q hq => (by cases hq), trivial⟩) (fun D i H' _ p o h => p.1 _ _ h) ?_ ?_⟩
    · rintro D i v H' hD hi ⟨e, _, qs, hqs, nd, hq0, hqa⟩
      have hlt : i < 1000 := by have := (List.getElem?_eq_some_iff.mp hi).1; omega
      refine ⟨rfl, Nat.zero_le _, fun q hq => ⟨_, by rw [upd_ne (ne_of_none hqs hq)]; exact hqs, ?_, sm_mut (sm_laid e hq) hD, hD, qs ++ [q], ?_, ?_, ?_, ?_⟩⟩
      · rw [List.length_map, hqa.length, List.length_replicate]; exact Nat.lt_of_lt_of_le hlt (by decide)
      · rw [upd_same, List.map_append]; rfl
      · refine List.nodup_append.mpr ⟨nd, List.nodup_cons.mpr ⟨List.not_mem_nil, List.nodup_nil⟩, fun a ha b hb => ?_⟩
        rw [List.mem_singleton.mp hb]
        intro z
        obtain ⟨j, hj⟩ := List.getElem?_of_mem ha
        have hjl := (List.getElem?_eq_some_iff.mp hj).1
        rw [hqa.length] at hjl
        obtain ⟨a', ha', hh⟩ := All2.get hqa (List.getElem?_eq_getElem hjl)
        rw [hj] at ha'; cases ha'
        exact ne_of_none hh hq z
      · intro a ha
        rcases List.mem_append.mp ha with ha | ha
        · exact hq0 a ha
        · rw [List.mem_singleton.mp ha]; exact ⟨e.free hq, Ne.symm (ne_of_none hqs hq)⟩
      · rw [List.replicate_succ']
        refine All2.snoc (All2.imp_mem (fun a b ha z => ?_) hqa) ?_
        · rw [upd_ne (hq0 a ha).2, upd_ne (ne_of_none z hq)]; exact z
        · rw [upd_ne (Ne.symm (ne_of_none hqs hq)), upd_same]; rfl
    · rintro so H1 hso ⟨e1, _, qs, hqs, nd, hq0, hqa⟩
      rw [hSl] at hqa
      have hql : qs.length = rows.length := by rw [hqa.length, List.length_replicate]
      -- for state, row in enumerate(arrows): ..
      obtain ⟨ps, hSp, hR⟩ := id hA
      have hpl := hR.length
      refine ⟨_, rfl, for_enumQ (hSp.mono e1) (fun i σ H' => ∃ (v3 v4 v5 : Option V) (ss : List (List Int)), σ = [some (.ref aA), some (.ref aE), some (.ref so), v3, v4, v5, none, none, none, none] ∧ Same H H' ∧ H' so = some (.lst (qs.map V.ref)) ∧ All2 (fun q s => H' q = some (.lst (s.map V.int))) qs ss ∧ Srcs rows ss i 0)
        ⟨_, _, _, _, rfl, e1, hqs, hqa, Srcs.zero rows⟩ (fun i σ' H' _ ⟨_, _, _, _, _, e, _⟩ => keep_of hSp e1 e) ?_ ?_⟩
      · rintro i x σ' H2 H3 hi ⟨v3, v4, v5, ss, rfl, e2, hso2, hqa2, sr⟩ e23
        have e3 := e2.trans e23
        rw [List.getElem?_map] at hi
        cases hp : ps[i]? with
        | none => rw [hp] at hi; cases hi
        | some p =>
          rw [hp] at hi; cases hi
          have hir : i < rows.length := by rw [← hpl]; exact (List.getElem?_eq_some_iff.mp hp).1
          obtain ⟨p', hp', hrow⟩ := All2.get hR (List.getElem?_eq_getElem hir)
          rw [hp] at hp'; cases hp'
          have hgd : rows.getD i [] = rows[i] := getD_some (List.getElem?_eq_getElem hir)
          have hrm : rows[i] ∈ rows := List.getElem_mem hir
          rw [← hgd] at hrow hrm
          refine ⟨_, rfl, for_q (Sq.mono e3 hrow) (fun j σ H' => ∃ (v5 : Option V) (ss : List (List Int)), σ = [some (.ref aA), some (.ref aE), some (.ref so), some (.int (i : Nat)), some (.ref p), v5, none, none, none, none] ∧ Same H H' ∧ H' so = some (.lst (qs.map V.ref)) ∧ All2 (fun q s => H' q = some (.lst (s.map V.int))) qs ss ∧ Srcs rows ss i j)
            ⟨_, _, rfl, e3, e23 _ _ hso2, All2.imp (fun _ _ z => e23 _ _ z) hqa2, sr⟩ (fun j σ' H' _ ⟨_, _, _, e, _⟩ => keep_of hrow e3 e) ?_ ?_⟩
          · rintro j v σ2 H4 hj ⟨v5', ss', rfl, e4, hso4, hqa4, sr4⟩
            obtain ⟨t, ht, rfl⟩ := int_item hj
            obtain ⟨t0, t1⟩ := ok.inn _ hrm t (List.mem_of_getElem? ht)
            refine ⟨_, rfl, _, _, rfl, rfl, _, rfl, ite2 (fun c1 => ?_) (fun c1 => ⟨_, ss', rfl, e4, hso4, hqa4, sr4.skip ht (fun z => c1 (decide_eq_true z))⟩)⟩
            have c1' := of_decide_eq_true c1
            have htq : t.toNat < ss'.length := by rw [sr4.len]; omega
            obtain ⟨q, hq, hqv⟩ := All2.get hqa4 (List.getElem?_eq_getElem htq)
            have hgs : ss'.getD t.toNat [] = ss'[t.toNat] := getD_some (List.getElem?_eq_getElem htq)
            rw [← hgs] at hqv
            refine ⟨_, rfl, _, rfl, _, _, _, .ref q, rfl, rfl, .l hso4, atI_int c1' (by rw [List.getElem?_map, hq]; rfl), .inl ⟨rfl, _, .of hqv⟩, _, rfl, _, _, _, rfl, rfl, hqv, ?_, ?_⟩
            · rw [List.length_map]
              have := sr4.few (ss'.getD t.toNat []) (by rw [hgs]; exact List.getElem_mem htq)
              have hjl : j < 4 := Nat.lt_of_lt_of_le (List.getElem?_eq_some_iff.mp ht).1 (ok.thin _ hrm)
              exact Nat.lt_of_le_of_lt (by omega : _ ≤ 4 * 1000 + 4) (by decide)
            · have qm := List.mem_of_getElem? hq
              have eqv : (ss'.getD t.toNat []).map V.int ++ [V.int (i : Nat)] = (ss'.getD t.toNat [] ++ [((i : Nat) : Int)]).map V.int := by rw [List.map_append]; rfl
              rw [eqv]
              exact ⟨_, _, rfl, sm_mut e4 (hq0 q qm).1, by rw [upd_ne (Ne.symm (hq0 q qm).2)]; exact hso4, lists_upd nd hqa4 hq, sr4.add ht c1' t1 hir⟩
          · rintro σ2 H4 ⟨v5', ss', rfl, e4, hso4, hqa4, sr4⟩
            rw [List.length_map] at sr4
            exact ⟨_, _, _, ss', rfl, e4, hso4, hqa4, sr4.row (ok.thin _ hrm)⟩
      · rintro σ' H2 ⟨v3, v4, v5, ss, rfl, e2, hso2, hqa2, sr⟩
        rw [List.length_map, hpl] at sr
        -- living = [False for _ in arrows]
        refine ⟨_, rfl, lc_q (K := K) (hS.mono e2) (fun D i H' => Same H2 H' ∧ H2 D = none ∧ H' D = some (.lst ((List.replicate i false).map V.bl))) (fun D hD => ⟨sm_new hD, hD, upd_same⟩) (fun D i H' _ p o h => p.1 _ _ h) ?_ ?_⟩
        · rintro D i v H' hD hi ⟨e, _, hd⟩
          have hlt : i < 1000 := by have := (List.getElem?_eq_some_iff.mp hi).1; omega
          refine ⟨rfl, _, hd, by rw [List.length_map, List.length_replicate]; exact Nat.lt_of_lt_of_le hlt (by decide), sm_mut e hD, hD, ?_⟩
          rw [upd_same, List.replicate_succ', List.map_append]; rfl
        · rintro D H3 hD ⟨e3, _, hd⟩
          rw [hSl] at hd
          have hE2 := hE.mono e2
          have hl0 : (List.replicate rows.length false).length = rows.length := List.length_replicate
          -- for state in ends: living[state] = True
          refine ⟨_, rfl, for_q (Sq.mono e3 hE2) (fun i σ H' => ∃ (v3 v4 v5 : Option V) (bs : List Bool), σ = [some (.ref aA), some (.ref aE), some (.ref so), v3, v4, v5, some (.ref D), none, none, none] ∧ Same H2 H' ∧ H' D = some (.lst (bs.map V.bl)) ∧ bs.length = rows.length ∧ (∀ e ∈ ends.take i, gb bs e = true) ∧ ∀ q : Int, 0 ≤ q → gb bs q = true → q ∈ ends)
            ⟨_, _, _, _, rfl, e3, hd, hl0, fun e he => by simp at he, fun q q0 hb => by
              unfold gb at hb
              rw [List.getD_eq_getElem?_getD, List.getElem?_replicate] at hb
              split at hb <;> simp at hb⟩ (fun i σ' H' _ ⟨_, _, _, _, _, e, _⟩ => keep_of hE2 e3 e) ?_ ?_⟩
          · rintro i v σ2 H4 hi ⟨w3, w4, w5, bs, rfl, e4, hd4, hbl, hbe, hbo⟩
            obtain ⟨e, he, rfl⟩ := int_item hi
            obtain ⟨i0, i1⟩ := hei e (List.mem_of_getElem? he)
            have elt : e.toNat < bs.length := by rw [hbl]; omega
            refine ⟨_, rfl, _, rfl, _, _, _, e.toNat, rfl, rfl, hd4, ixN_int i0 (by rw [List.length_map]; exact elt), ?_⟩
            rw [map_set_bl]
            refine ⟨_, _, _, _, rfl, sm_mut e4 hD, upd_same, by rw [List.length_set]; exact hbl, fun u hu => ?_, fun q q0 hb => ?_⟩
            · rw [List.take_add_one, he] at hu
              rcases List.mem_append.mp hu with hu | hu
              · exact gb_mono _ _ _ (hbe u hu)
              · rw [List.mem_singleton.mp hu]; exact gb_same _ _ elt
            · rw [gb_set] at hb
              rcases Bool.or_eq_true_iff.mp hb with hb | hb
              · exact hbo q q0 hb
              · have := (of_decide_eq_true hb).1
                have : q = e := by omega
                rw [this]; exact List.mem_of_getElem? he
          · rintro σ2 H4 ⟨w3, w4, w5, bs, rfl, e4, hd4, hbl, hbe, hbo⟩
            rw [List.length_map, List.take_length] at hbe
            -- waiting = list(ends)
            refine ⟨_, rfl, _, _, rfl, Sq.mono e4 hE2, fun wt hwt => ?_⟩
            have hnw : H2 wt = none := e4.free hwt
            have hDw : D ≠ wt := ne_of_none hd4 hwt
            have e5 : Same H2 (upd H4 wt (.lst (ends.map V.int))) := sm_laid e4 hwt
            have li0 : LI rows ends bs ends (-1) := ⟨hbl, hbe, hei, fun q q0 q1 t ht t0 hb => .inr (.inl (hbo t t0 hb))⟩
            refine ⟨fun m σ H' => ∃ (bs : List Bool) (ws : List Int) (v3 v4 v5 v8 : Option V), σ = [some (.ref aA), some (.ref aE), some (.ref so), v3, v4, v5, some (.ref D), some (.ref wt), v8, none] ∧ Same H2 H' ∧ H' D = some (.lst (bs.map V.bl)) ∧ H' wt = some (.lst (ws.map V.int)) ∧
              LI rows ends bs ws (-1) ∧ ws.length + nF bs ≤ 2000 ∧ m = 2 * nF bs + ws.length, ⟨_, bs, ends, _, _, _, _, rfl, e5, by rw [upd_ne hDw]; exact hd4, upd_same, li0, ?_, rfl⟩, ?_⟩
            · have : nF bs ≤ bs.length := List.countP_le_length
              omega
            · rintro m σ' H5 ⟨bs, ws, w3, w4, w5, w8, rfl, e5, hD5, hW5, li, hsz, rfl⟩
              refine ⟨_, rfl, _, _, rfl, .l hW5, _, _, rfl, rfl, _, rfl, ite2 (fun c => ?_) (fun c => ?_)⟩
              · have hpos := of_decide_eq_true c
                rw [List.length_map] at hpos
                obtain ⟨ws', s0, rfl⟩ : ∃ ws' s0, ws = ws' ++ [s0] := by
                  rcases List.eq_nil_or_concat ws with z | ⟨a, b, z⟩
                  · rw [z] at hpos; simp at hpos
                  · exact ⟨a, b, by rw [z, List.concat_eq_append]⟩
                obtain ⟨s0n, s0l⟩ := li.inn s0 (List.mem_append_right _ (List.mem_singleton.mpr rfl))
                refine ⟨fun σ2 H3 => ∃ m', m' < 2 * nF bs + (ws' ++ [s0]).length ∧ ∃ (bs : List Bool) (ws : List Int) (v3 v4 v5 v8 : Option V), σ2 = [some (.ref aA), some (.ref aE), some (.ref so), v3, v4, v5, some (.ref D), some (.ref wt), v8, none] ∧ Same H2 H3 ∧ H3 D = some (.lst (bs.map V.bl)) ∧ H3 wt = some (.lst (ws.map V.int)) ∧
                  LI rows ends bs ws (-1) ∧ ws.length + nF bs ≤ 2000 ∧ m' = 2 * nF bs + ws.length, fun _ _ h => h, ?_⟩
                refine ⟨_, rfl, .inl ⟨rfl, _, .of hW5⟩, wt, _, _, rfl, rfl, hW5, getLast_app _, ?_⟩
                rw [dropLast_app]
                have hD6 : upd H5 wt (.lst (ws'.map V.int)) D = some (.lst (bs.map V.bl)) := by rw [upd_ne hDw]; exact hD5
                have e6 : Same H2 (upd H5 wt (.lst (ws'.map V.int))) := sm_mut e5 hnw
                have hW6 : upd H5 wt (.lst (ws'.map V.int)) wt = some (.lst (ws'.map V.int)) := upd_same
                have liP := li.pop
                rw [List.length_append, List.length_singleton] at hsz
                rw [List.length_append, List.length_singleton]
                generalize upd H5 wt (.lst (ws'.map V.int)) = H6 at hD6 e6 hW6
                have hsl : s0.toNat < ss.length := by rw [sr.len]; omega
                obtain ⟨q, hq, hqv⟩ := All2.get hqa2 (List.getElem?_eq_getElem hsl)
                have hsrc : ∀ q : Int, 0 ≤ q → q < rows.length → s0 ∈ tg rows q → q ∈ ss[s0.toNat] := fun q q0 q1 hm => by
                  obtain ⟨i, hi⟩ := List.getElem?_of_mem hm
                  have := sr.has q.toNat i s0 hi s0n (.inl (by omega))
                  rw [getD_some (List.getElem?_eq_getElem hsl)] at this
                  rwa [show ((q.toNat : Nat) : Int) = q by omega] at this
                have hsin := sr.inn _ (List.getElem_mem hsl)
                generalize ss[s0.toNat] = src at hqv hsrc hsin
                -- for source in sources[state]
                refine ⟨_, rfl, _, rfl, _, _, _, _, rfl, rfl, .l (e6 _ _ hso2), atI_int s0n (by rw [List.getElem?_map, hq]; rfl), for_q (.l (e6 _ _ hqv)) (fun i σ H' => ∃ (bs' : List Bool) (ws2 : List Int) (v4 v5 v8 : Option V), σ = [some (.ref aA), some (.ref aE), some (.ref so), some (.int s0), v4, v5, some (.ref D), some (.ref wt), v8, none] ∧ Same H2 H' ∧ H' D = some (.lst (bs'.map V.bl)) ∧ H' wt = some (.lst (ws2.map V.int)) ∧
                  LI rows ends bs' ws2 s0 ∧ ws2.length + nF bs' ≤ 2000 ∧ 2 * nF bs' + ws2.length ≤ 2 * nF bs + ws'.length ∧ ∀ t ∈ src.take i, gb bs' t = true) ⟨bs, ws', _, _, _, rfl, e6, hD6, hW6, liP, by omega, Nat.le_refl _, fun t ht => by simp at ht⟩ (fun i σ' H' _ ⟨_, _, _, _, _, _, e, _⟩ => keep_of (.l hqv) e6 e) ?_ ?_⟩
                · rintro i v σ2 H7 hi ⟨bs', ws2, w4', w5', w8', rfl, e7, hD7, hW7, li7, hsz7, hm7, hcl⟩
                  obtain ⟨t, ht, rfl⟩ := int_item hi
                  obtain ⟨t0, t1⟩ := hsin t (List.mem_of_getElem? ht)
                  have tk : src.take (i + 1) = src.take i ++ [t] := by rw [List.take_add_one, ht]; rfl
                  have tlt : t.toNat < bs'.length := by rw [li7.len]; omega
                  refine ⟨_, rfl, _, rfl, _, _, _, _, rfl, rfl, .l hD7, atI_gb t0 (by omega), _, rfl, ite2 (fun c2 => ?_) (fun c2 => ?_)⟩
                  · have c2' : gb bs' t = false := by simpa using c2
                    refine ⟨_, rfl, _, rfl, _, _, _, t.toNat, rfl, rfl, hD7, ixN_int t0 (by rw [List.length_map]; exact tlt), ?_⟩
                    rw [map_set_bl]
                    have hW8 : upd H7 D (.lst ((bs'.set t.toNat true).map V.bl)) wt = some (.lst (ws2.map V.int)) := by rw [upd_ne (Ne.symm hDw)]; exact hW7
                    have hn := nF_set bs' t.toNat (gb_false tlt c2')
                    refine ⟨_, rfl, .inl ⟨rfl, _, .of hW8⟩, _, rfl, _, _, _, rfl, rfl, hW8, ?_, ?_⟩
                    · rw [List.length_map]; exact Nat.lt_of_le_of_lt (by omega : ws2.length ≤ 2000) (by decide)
                    · refine ⟨bs'.set t.toNat true, ws2 ++ [t], _, _, _, rfl, sm_mut (sm_mut e7 hD) hnw, by rw [upd_ne hDw]; exact upd_same, by rw [upd_same, List.map_append]; rfl, li7.push t0 t1, by rw [List.length_append, List.length_singleton]; omega, by rw [List.length_append, List.length_singleton]; omega, fun u hu => ?_⟩
                      rw [tk] at hu
                      rcases List.mem_append.mp hu with hu | hu
                      · exact gb_mono _ _ _ (hcl u hu)
                      · rw [List.mem_singleton.mp hu]; exact gb_same _ _ tlt
                  · have c2' : gb bs' t = true := by simpa using c2
                    refine ⟨bs', ws2, _, _, _, rfl, e7, hD7, hW7, li7, hsz7, hm7, fun u hu => ?_⟩
                    rw [tk] at hu
                    rcases List.mem_append.mp hu with hu | hu
                    · exact hcl u hu
                    · rw [List.mem_singleton.mp hu]; exact c2'
                · rintro σ2 H7 ⟨bs', ws2, w4', w5', w8', rfl, e7, hD7, hW7, li7, hsz7, hm7, hcl⟩
                  rw [List.length_map, List.take_length] at hcl
                  exact ⟨2 * nF bs' + ws2.length, by omega, bs', ws2, _, _, _, _, rfl, e7, hD7, hW7, li7.close (fun q q0 q1 hm => hcl q (hsrc q q0 q1 hm)), hsz7, rfl⟩
              · have hz : ws = [] := by
                  have : ¬ (0 : Int) < (ws.map V.int).length := fun z => c (decide_eq_true z)
                  rw [List.length_map] at this
                  cases ws with
                  | nil => rfl
                  | cons a b => simp at this
                subst hz
                exact ⟨_, rfl, k _ _ _ (e2.trans e5) hD5 li.done⟩
end
end Fy

set_option Elab.async false
set_option linter.all false
set_option maxRecDepth 100000
set_option maxHeartbeats 4000000
namespace Fy
open PySem PySem.Spec PyProof.Rows L2
section
variable {P : Program} {w : World} {K : PySem.W.Frag} {mg : Str → Option Value} {base : Heap}
abbrev N_useful_states : List Str := ["arrows", "ends", "reached", "living", "state"]
theorem sc_useful_states : FnScope N_useful_states ["arrows", "ends"] (defScope s_useful_states) := ⟨rfl, rfl, rfl, by decide +kernel, rfl, by decide +kernel, by decide +kernel⟩
def spUseful : Sp := fun vs H Q _ => ∃ (aA aE : Addr) (rows : List (List Int)) (ends : List Int), vs = [.ref aA, .ref aE] ∧ Rows H aA rows ∧ Ints H aE ends ∧ ROk rows ∧ rows.length ≤ 1000 ∧ ends.length ≤ 1000 ∧ (∀ e ∈ ends, 0 ≤ e ∧ e < rows.length) ∧
  ∀ H' p us, Same H H' → H' p = some (.lst (us.map V.bl)) → Useful rows ends us → Q (.ref p) H'
theorem ok_useful_states (T : Tx K mg) : Has P w K mg base CX0 2 (He.ga K "useful_states") ["arrows", "ends"] spUseful := by
  have G_reached_states := ok_reached_states (P := P) (w := w) (base := base) T
  have G_living_states := ok_living_states (P := P) (w := w) (base := base) T
  refine has_of T.f_useful_states sc_useful_states (fun _ _ _ _ _ _ us hl => match us, hl with | [_, _], _ => rfl) (fun vs H Q E h => ?_) (fun cdv A outer s H vs Q E hr h => ?_)
  · obtain ⟨aA, aE, rows, ends, rfl, _⟩ := h
    rfl
  · obtain ⟨aA, aE, rows, ends, rfl, hA, hE, ok, h1000, e1000, hei, k⟩ := h
    obtain ⟨xsA, hS, hSl⟩ := hA.len
    refine ⟨_, (pss_cons (ps_set (i := 2) sc_useful_states.nd rfl (Or.inr rfl) (pe_c G_reached_states (hr.mono (by decide)) T.g_reached_states (pa_cons (pv 0) pa_nil)))
    (pss_cons (ps_set (i := 3) sc_useful_states.nd rfl (Or.inr rfl) (pe_c G_living_states (hr.mono (by decide)) T.g_living_states (pa_cons (pv 0) (pa_cons (pv 1) pa_nil))))
    (pss_one (ps_ret (pe_lc (own := [("state", 4)]) rfl sc_useful_states.nd (pi_range1 (by rfl) T.z_range (pa_cons (pe_callB call_lenQ (by rfl) T.z_len PySem.boot_len (pa_cons (pv 0) pa_nil)) pa_nil)) (blkOk_by (own := [("state", 4)]) (N := N_useful_states) (sc := defScope s_useful_states) (by decide +kernel)) (fun _ _ _ _ _ => pg_name (i := 4) sc_useful_states.nd rfl (Or.inl rfl)) (fun _ _ _ _ _ => pts_nil) (fun _ _ _ _ _ => pe_and (pe_ix ix_q (pv 2) (pv 4) (fun _ _ => rfl)) (pe_one (pe_ix ix_q (pv 3) (pv 4) (fun _ _ => rfl))))))))), ?_⟩
    refine ⟨_, rfl, aA, rows, rfl, hA, ok, h1000, fun H1 pr rs e1 hr1 rok => ?_⟩
    refine ⟨_, rfl, _, rfl, aA, aE, rows, ends, rfl, hA.mono e1, hE.mono e1, ok, h1000, e1000, hei, fun H2 pl ls e2 hl2 lok => ?_⟩
    have e12 := e1.trans e2
    refine ⟨_, rfl, _, _, rfl, Sq.mono e12 hS, (xsA.length : Int), rfl, by omega, by rw [hSl]; omega, fun D hD => lc_range (lo := 0) (n := ((xsA.length : Int)).toNat) (fun i H' => Same H2 H' ∧ H' D = some (.lst (((List.range i).map fun q : Nat => gb rs q && gb ls q).map V.bl))) ⟨sm_new hD, upd_same⟩ (fun i H' hi ⟨e3, h3⟩ => ?_) (fun H' ⟨e3, h3⟩ => ?_)⟩
    · have hi' : i < rows.length := by rw [hSl] at hi; omega
      have z0 : (0 : Int) + (i : Nat) = (i : Nat) := Int.zero_add _
      rw [z0]
      refine ⟨rfl, _, rfl, _, rfl, _, _, _, _, rfl, rfl, .l (e3 _ _ (e2 _ _ hr1)), atI_gb (by omega) (by rw [rok.len]; omega), _, rfl, ?_⟩
      have fin : ∀ b : Bool, b = (gb rs i && gb ls i) → ∃ acc, H' D = some (.lst acc) ∧ acc.length < sizeLine ∧ Same H2 (upd H' D (.lst (acc ++ [.bl b]))) ∧ (upd H' D (.lst (acc ++ [.bl b]))) D = some (.lst (((List.range (i + 1)).map fun q : Nat => gb rs q && gb ls q).map V.bl)) := fun b hb =>
        ⟨_, h3, by rw [List.length_map, List.length_map, List.length_range]; exact Nat.lt_of_lt_of_le (by omega : i < 1000) (by decide), sm_mut e3 hD, by rw [upd_same, range_snoc, List.map_append, hb]; rfl⟩
      refine ite2 (fun c => ?_) (fun c => ?_)
      · refine ⟨_, rfl, _, rfl, _, _, _, _, rfl, rfl, .l (e3 _ _ hl2), atI_gb (by omega) (by rw [lok.len]; omega), fin _ (by rw [c, Bool.true_and])⟩
      · have c' : gb rs i = false := by simpa using c
        exact fin false (by rw [c', Bool.false_and])
    · rw [hSl] at h3
      refine k _ _ _ (e12.trans e3) h3 ⟨by simp, rs, ls, rok, lok, fun q q0 q1 => ?_⟩
      rw [gb_range _ q0 (by simpa using q1), show ((q.toNat : Nat) : Int) = q by omega]
abbrev N_nothing : List Str := ["letters", "_"]
theorem sc_nothing : FnScope N_nothing ["letters"] (defScope s_nothing) := ⟨rfl, rfl, rfl, by decide +kernel, rfl, by decide +kernel, by decide +kernel⟩
def spNothing (C : Addr) : Sp := fun vs H Q _ => ∃ l : Str, vs = [.str l] ∧ LOk l ∧ ∀ H' p, Same H H' → MachAt C H' p l [List.replicate (cs l).length (-1)] [] → Q (.ref p) H'
theorem mok_nothing (n : Nat) : MOk n [List.replicate n (-1)] [] :=
  ⟨by show 0 < 1; decide, by show 1 ≤ 128; decide, fun r hr => by
    rw [List.mem_singleton.mp hr]
    exact ⟨List.length_replicate, fun x hx => by rw [(List.mem_replicate.mp hx).2]; show -1 ≤ (-1 : Int) ∧ (-1 : Int) < 1; decide⟩, List.Pairwise.nil, fun e he => by cases he⟩
theorem ok_nothing (T : Tx K mg) : Has P w K mg base CX0 4 (He.ga K "nothing") ["letters"] (spNothing (CM K)) := by
  have G_check_letters := ok_check_letters (P := P) (w := w) (base := base) T
  have G_Machine_init := ok_Machine_init (P := P) (w := w) (base := base) T
  refine has_of T.f_nothing sc_nothing (fun _ _ _ _ _ _ us hl => match us, hl with | [_], _ => rfl) (fun vs H Q E h => ?_) (fun cdv A outer s H vs Q E hr h => ?_)
  · obtain ⟨l, rfl, _⟩ := h
    rfl
  · obtain ⟨l, rfl, lo, k⟩ := h
    refine ⟨_, (pss_cons (ps_expr (pe_c G_check_letters (hr.mono (by decide)) T.g_check_letters (pa_cons (pv 0) pa_nil)))
    (pss_one (ps_ret (pe_mk T.m_Machine G_Machine_init (hr.mono (by decide)) T.g_Machine (pa_cons (pv 0) (pa_cons (pe_lst (pa_cons (pe_lc (own := [("_", 1)]) rfl sc_nothing.nd (pi_str (pv 0)) (blkOk_by (own := [("_", 1)]) (N := N_nothing) (sc := defScope s_nothing) (by decide +kernel)) (fun _ _ _ _ _ => pg_name (i := 1) sc_nothing.nd rfl (Or.inl rfl)) (fun _ _ _ _ _ => pts_nil) (fun _ _ _ _ _ => pe_un un_neg (pe_int))) pa_nil)) (pa_cons (pe_lst pa_nil) pa_nil))))))), ?_⟩
    refine ⟨_, rfl, l, rfl, lo, ?_⟩
    -- Machine(letters, [[-1 for _ in letters]], [])
    refine ⟨_, rfl, _, rfl, l, rfl, fun D hD => lc_it walk_str (fun i H' => Same H H' ∧ H' D = some (.lst ((List.replicate i (-1)).map V.int))) ⟨sm_new hD, upd_same⟩ (fun _ _ _ _ => trivial) (fun i v H1 H2 hi ⟨e, h1⟩ ⟨e2, _⟩ => ?_) (fun H1 ⟨e1, h1⟩ => ?_)⟩
    · subst e2
      have hi4 : i < 5 := by have := lo.four; have : (cs l).length = l.cps.size := by simp
                             omega
      refine ⟨rfl, _, rfl, _, h1, by rw [List.length_map, List.length_replicate]; exact Nat.lt_of_lt_of_le hi4 (by decide), sm_mut e hD, ?_⟩
      rw [upd_same, List.replicate_succ', List.map_append]; rfl
    · have hsz : l.cps.size = (cs l).length := by simp
      rw [hsz] at h1
      refine ⟨by show 1 ≤ sizeLine; decide, fun p hp => ?_⟩
      have e2 : Same H (upd H1 p (.lst [.ref D])) := sm_laid e1 hp
      refine ⟨Nat.zero_le _, fun q hq => fun x dx nx ndx nex => ?_⟩
      have e3 : Same H (upd (upd H1 p (.lst [.ref D])) q (.lst [])) := sm_laid e2 hq
      have hp3 : (upd (upd H1 p (.lst [.ref D])) q (.lst [])) p = some (.lst [.ref D]) := by rw [upd_ne (ne_of_none upd_same hq)]; exact upd_same
      have hD3 : (upd (upd H1 p (.lst [.ref D])) q (.lst [])) D = some (.lst ((List.replicate (cs l).length (-1)).map V.int)) := by
        rw [upd_ne (ne_of_none (sm_new hp _ _ h1) hq), upd_ne (ne_of_none h1 hp)]; exact h1
      have hq3 : (upd (upd H1 p (.lst [.ref D])) q (.lst [])) q = some (.lst []) := upd_same
      generalize (upd (upd H1 p (.lst [.ref D])) q (.lst [])) = H3 at e3 hp3 hD3 hq3 nx ndx
      have s0 : Same H3 (upd (upd H3 dx (.own x)) x (.ins (CM K) dx [])) := fun b o e => by
        rw [upd_ne (ne_of_none e nx), upd_ne (ne_of_none e ndx)]
        exact e
      refine ⟨H3, x, dx, l, p, q, [List.replicate (cs l).length (-1)], [], rfl, s0, nx, upd_same, ⟨[D], .l hp3, ⟨Sq.l hD3, trivial⟩⟩, .l hq3, lo, mok_nothing _, fun H4 e4 hM => ⟨rfl, k _ _ (e3.trans e4) hM⟩⟩
end
end Fy

set_option Elab.async false
set_option linter.all false
set_option maxRecDepth 100000
set_option maxHeartbeats 4000000
namespace Fy
open PySem PySem.Spec PyProof.Rows L2
section
variable {P : Program} {w : World} {K : PySem.W.Frag} {mg : Str → Option Value} {base : Heap}
abbrev N_rest_groups : List Str := ["arrows", "ends", "useful", "group", "state", "count", "numbers", "split", "row", "key", "_", "target"]
theorem sc_rest_groups : FnScope N_rest_groups ["arrows", "ends", "useful"] (defScope s_rest_groups) := ⟨rfl, rfl, rfl, by decide +kernel, rfl, by decide +kernel, by decide +kernel⟩
def spRest : Sp := fun vs H Q _ => ∃ (aA aE aU : Addr) (rows : List (List Int)) (ends : List Int) (us : List Bool), vs = [.ref aA, .ref aE, .ref aU] ∧ Rows H aA rows ∧ Ints H aE ends ∧ H aU = some (.lst (us.map V.bl)) ∧ ROk rows ∧ rows.length ≤ 1000 ∧ us.length = rows.length ∧ (∀ e ∈ ends, 0 ≤ e ∧ e < rows.length) ∧
  ∀ H' p sp, Same H H' → H' p = some (.lst (sp.map V.int)) → Stable rows ends us sp → Q (.ref p) H'
theorem ok_rest_groups (T : Tx K mg) : Has P w K mg base CX0 1 (He.ga K "rest_groups") ["arrows", "ends", "useful"] spRest := by
  refine has_of T.f_rest_groups sc_rest_groups (fun _ _ _ _ _ _ us hl => match us, hl with | [_, _, _], _ => rfl) (fun vs H Q E h => ?_) (fun cdv A outer s H vs Q E hr h => ?_)
  · obtain ⟨aA, aE, aU, rows, ends, us, rfl, _⟩ := h
    rfl
  · obtain ⟨aA, aE, aU, rows, ends, us, rfl, hA, hE, hU, ok, h1000, hul, hei, k⟩ := h
    have p0 := ok.pos
    have hu := hu_of hr
    have hu9 := Nat.lt_of_le_of_lt (Nat.add_le_add_left (by decide : 9 ≤ 64) _) hr.units
    obtain ⟨xsA, hS, hSl⟩ := hA.len
    refine ⟨_, (pss_cons (ps_set (i := 3) sc_rest_groups.nd rfl (Or.inr rfl) (pe_lc (own := [("_", 10)]) rfl sc_rest_groups.nd (pi_q (pv 0)) (blkOk_by (own := [("_", 10)]) (N := N_rest_groups) (sc := defScope s_rest_groups) (by decide +kernel)) (fun _ _ _ _ _ => pg_name (i := 10) sc_rest_groups.nd rfl (Or.inl rfl)) (fun _ _ _ _ _ => pts_nil) (fun _ _ _ _ _ => pe_un un_neg (pe_int))))
    (pss_cons (ps_for PassesOwn.never rfl (pi_range1 (by rfl) T.z_range (pa_cons (pe_callB call_lenQ (by rfl) T.z_len PySem.boot_len (pa_cons (pv 0) pa_nil)) pa_nil)) (pg_name (i := 4) sc_rest_groups.nd rfl (Or.inl rfl))
    (pss_one (ps_if (pt_val (pe_ix ix_q (pv 2) (pv 4) (fun _ _ => rfl)))
      (pss_one (ps_asg (pe_int) (pg_sub (pv 3) (pv 4) set_list)))
      (pss_nil))))
    (pss_cons (ps_for PassesOwn.never rfl (pi_q (pv 1)) (pg_name (i := 4) sc_rest_groups.nd rfl (Or.inl rfl))
    (pss_one (ps_if (pt_val (pe_ix ix_q (pv 2) (pv 4) (fun _ _ => rfl)))
      (pss_one (ps_asg (pe_int) (pg_sub (pv 3) (pv 4) set_list)))
      (pss_nil))))
    (pss_cons (ps_set (i := 5) sc_rest_groups.nd rfl (Or.inl rfl) (pe_int))
    (pss_one (ps_while PassesOwn.never (pt_val (pe_bl))
    (pss_cons (ps_set (i := 6) sc_rest_groups.nd rfl (Or.inl rfl) (pe_ndNewP (P := P) (w := w) rfl rfl))
      (pss_cons (ps_set (i := 7) sc_rest_groups.nd rfl (Or.inl rfl) (pe_lst pa_nil))
      (pss_cons (ps_for PassesOwn.never rfl (pi_enumQ (by rfl) T.z_enumerate (pa_cons (pv 0) pa_nil)) (pg_tup rfl (pgs_cons (pg_name (i := 4) sc_rest_groups.nd rfl (Or.inl rfl)) (pgs_cons (pg_name (i := 8) sc_rest_groups.nd rfl (Or.inl rfl)) pgs_nil)))
      (pss_one (ps_if (pt_val (pe_ix ix_q (pv 2) (pv 4) (fun _ _ => rfl)))
        (pss_cons (ps_set (i := 9) sc_rest_groups.nd rfl (Or.inl rfl) (pe_tup (pa_cons (pe_ix ix_q (pv 3) (pv 4) (fun _ _ => rfl)) (pa_cons (pe_callTy call_tupQ (by rfl) T.z_tuple (by decide +kernel) (pa_cons (pe_lc (own := [("target", 11)]) rfl sc_rest_groups.nd (pi_q (pv 8)) (blkOk_by (own := [("target", 11)]) (N := N_rest_groups) (sc := defScope s_rest_groups) (by decide +kernel)) (fun _ _ _ _ _ => pg_name (i := 11) sc_rest_groups.nd rfl (Or.inl rfl)) (fun _ _ _ _ _ => pts_nil) (fun _ _ _ _ _ => pe_ifExp (pt_cmpR op_ge (pv 11) (pe_int) (nomark _)) (pe_ix ix_q (pv 3) (pv 11) (fun _ _ => rfl)) (pe_un un_neg (pe_int)))) pa_nil)) pa_nil))))
          (pss_one (ps_expr (pe_bm PySem.F.plainAttrs_list PySem.F.slot_list_append PySem.F.type_list_append mt_append (pv 7) (pa_cons (pe_ndSetP (P := P) (w := w) rfl rfl hu9 (pv 6) (pv 9) (pe_callB call_len_nd (by rfl) T.z_len PySem.boot_len (pa_cons (pv 6) pa_nil)) ⟨rfl, rfl, rfl, rfl⟩) pa_nil)))))
        (pss_one (ps_expr (pe_bm PySem.F.plainAttrs_list PySem.F.slot_list_append PySem.F.type_list_append mt_append (pv 7) (pa_cons (pe_un un_neg (pe_int)) pa_nil)))))))
      (pss_cons (ps_if (pt_cmpR op_eq (pe_callB call_len_nd (by rfl) T.z_len PySem.boot_len (pa_cons (pv 6) pa_nil)) (pv 5) (nomark _))
      (pss_one (ps_ret (pv 7)))
      (pss_nil))
      (pss_cons (ps_set (i := 5) sc_rest_groups.nd rfl (Or.inl rfl) (pe_callB call_len_nd (by rfl) T.z_len PySem.boot_len (pa_cons (pv 6) pa_nil)))
      (pss_one (ps_set (i := 3) sc_rest_groups.nd rfl (Or.inr rfl) (pv 7)))))))))))))), ?_⟩
    -- group = [-1 for _ in arrows]
    refine ⟨_, rfl, lc_q (K := K) hS (fun D i H' => Same H H' ∧ H' D = some (.lst ((List.replicate i (-1 : Int)).map V.int))) (fun D hD => ⟨sm_new hD, upd_same⟩) (fun D i H' _ p o h => p.1 _ _ h) ?_ ?_⟩
    · rintro D i v H' hD hi ⟨e, h1⟩
      have hlt : i < 1000 := by have := (List.getElem?_eq_some_iff.mp hi).1; omega
      refine ⟨rfl, _, rfl, _, h1, by rw [List.length_map, List.length_replicate]; exact Nat.lt_of_lt_of_le hlt (by decide), sm_mut e hD, ?_⟩
      rw [upd_same, List.replicate_succ', List.map_append]; rfl
    · rintro D H1 hD ⟨e1, h1⟩
      rw [hSl] at h1
      -- for state in range(len(arrows))
      refine ⟨_, rfl, _, _, rfl, Sq.mono e1 hS, (xsA.length : Int), rfl, by omega, by rw [hSl]; omega, for_range (lo := 0) (n := ((xsA.length : Int)).toNat) (fun i σ H' => ∃ (v4 : Option V) (gr : List Int), σ = [some (.ref aA), some (.ref aE), some (.ref aU), some (.ref D), v4, none, none, none, none, none, none, none] ∧ Same H H' ∧ H' D = some (.lst (gr.map V.int)) ∧ gr.length = rows.length ∧
        ∀ q : Int, 0 ≤ q → q < rows.length → gi gr q = if q < i ∧ gb us q = true then 0 else -1) ⟨_, _, rfl, e1, h1, List.length_replicate, fun q q0 q1 => by rw [gi_rep _ _ _ q0 q1, if_neg (by omega)]⟩ ?_ ?_⟩
      · rintro i σ' H' hi ⟨v4, gr, rfl, e2, hD2, hgl, hg⟩
        have hi' : i < rows.length := by rw [hSl] at hi; omega
        have z0 : (0 : Int) + (i : Nat) = (i : Nat) := Int.zero_add _
        rw [z0]
        refine ⟨_, rfl, _, rfl, _, _, _, _, rfl, rfl, .l (e2 _ _ hU), atI_gb (by omega) (by omega), _, rfl, ite2 (fun c => ?_) (fun c => ?_)⟩
        · refine ⟨_, rfl, _, rfl, _, _, _, i, rfl, rfl, hD2, ixN_int (by omega) (by rw [List.length_map]; omega), ?_⟩
          rw [map_set_int]
          refine ⟨_, _, rfl, sm_mut e2 hD, upd_same, by rw [List.length_set]; exact hgl, fun q q0 q1 => ?_⟩
          rw [gi_set, hg q q0 q1]
          by_cases c1 : q = i
          · subst c1
            rw [if_pos ⟨by omega, by omega⟩, if_pos ⟨by omega, c⟩]
          · rw [if_neg (by omega)]
            by_cases c2 : q < i ∧ gb us q = true
            · rw [if_pos c2, if_pos ⟨by omega, c2.2⟩]
            · rw [if_neg c2, if_neg (fun z => c2 ⟨by omega, z.2⟩)]
        · refine ⟨_, _, rfl, e2, hD2, hgl, fun q q0 q1 => ?_⟩
          rw [hg q q0 q1]
          by_cases c1 : q = i
          · subst c1
            rw [if_neg (by omega), if_neg (fun z => c z.2)]
          · by_cases c2 : q < i ∧ gb us q = true
            · rw [if_pos c2, if_pos ⟨by omega, c2.2⟩]
            · rw [if_neg c2, if_neg (fun z => c2 ⟨by omega, z.2⟩)]
      · rintro σ' H2 ⟨v4, gr, rfl, e2, hD2, hgl, hg⟩
        rw [hSl] at hg
        -- for state in ends
        refine ⟨_, rfl, for_q (Ints.mono e2 hE) (fun i σ H' => ∃ (v4 : Option V) (gr : List Int), σ = [some (.ref aA), some (.ref aE), some (.ref aU), some (.ref D), v4, none, none, none, none, none, none, none] ∧ Same H H' ∧ H' D = some (.lst (gr.map V.int)) ∧ gr.length = rows.length ∧
          ∀ q : Int, 0 ≤ q → q < rows.length → gi gr q = if gb us q = true then (if q ∈ ends.take i then 1 else 0) else -1) ⟨_, gr, rfl, e2, hD2, hgl, fun q q0 q1 => ?_⟩ (fun i σ' H' _ ⟨_, _, _, e, _⟩ => keep_of hE e2 e) ?_ ?_⟩
        · rw [hg q q0 q1]
          by_cases c : gb us q = true
          · rw [if_pos ⟨by omega, c⟩, if_pos c, if_neg (by simp)]
          · rw [if_neg (fun z => c z.2), if_neg c]
        · rintro i v σ2 H4 hi ⟨w4, gr, rfl, e4, hD4, hgl, hg⟩
          obtain ⟨e, he, rfl⟩ := int_item hi
          obtain ⟨i0, i1⟩ := hei e (List.mem_of_getElem? he)
          refine ⟨_, rfl, _, rfl, _, _, _, _, rfl, rfl, .l (e4 _ _ hU), atI_gb i0 (by omega), _, rfl, ite2 (fun c => ?_) (fun c => ?_)⟩
          · refine ⟨_, rfl, _, rfl, _, _, _, e.toNat, rfl, rfl, hD4, ixN_int i0 (by rw [List.length_map]; omega), ?_⟩
            rw [map_set_int]
            refine ⟨_, _, rfl, sm_mut e4 hD, upd_same, by rw [List.length_set]; exact hgl, fun q q0 q1 => ?_⟩
            rw [gi_set, hg q q0 q1]
            by_cases c1 : q = e
            · subst c1
              rw [if_pos ⟨rfl, by omega⟩, if_pos c, if_pos ((mem_take_succ he q).mpr (.inr rfl))]
            · rw [if_neg (by omega)]
              have : q ∈ ends.take (i + 1) ↔ q ∈ ends.take i := by rw [mem_take_succ he q]; exact ⟨fun z => z.resolve_right c1, .inl⟩
              simp only [this]
          · refine ⟨_, _, rfl, e4, hD4, hgl, fun q q0 q1 => ?_⟩
            rw [hg q q0 q1]
            by_cases c2 : gb us q = true
            · have c1 : q ≠ e := by rintro rfl; exact c c2
              have : q ∈ ends.take (i + 1) ↔ q ∈ ends.take i := by rw [mem_take_succ he q]; exact ⟨fun z => z.resolve_right c1, .inl⟩
              simp only [this]
            · rw [if_neg c2, if_neg c2]
        · rintro σ2 H4 ⟨w4, gr, rfl, e4, hD4, hgl, hg⟩
          rw [List.length_map, List.take_length] at hg
          -- while True
          refine ⟨fun m σ H' => ∃ (cnt : Nat) (pg : Addr) (gr : List Int) (v4 v6 v7 v8 v9 : Option V), σ = [some (.ref aA), some (.ref aE), some (.ref aU), some (.ref pg), v4, some (.int cnt), v6, v7, v8, v9, none, none] ∧ Same H H' ∧ H' pg = some (.lst (gr.map V.int)) ∧ GI rows ends us gr cnt ∧ m = rows.length - cnt,
            ⟨_, 0, D, gr, _, _, _, _, _, rfl, e4, hD4, .first hgl hg, rfl⟩, ?_⟩
          clear hD4 hgl hg e4 hD2 e2 h1 e1 hD
          rintro m σ' H5 ⟨cnt, pg, gr, w4, w6, w7, w8, w9, rfl, e5, hg5, gi5, rfl⟩
          refine ⟨_, rfl, ite2 (fun _ => ?_) (fun c => absurd rfl c)⟩
          refine ⟨fun σ2 H3 => ∃ m', m' < rows.length - cnt ∧ ∃ (cnt : Nat) (pg : Addr) (gr : List Int) (v4 v6 v7 v8 v9 : Option V), σ2 = [some (.ref aA), some (.ref aE), some (.ref aU), some (.ref pg), v4, some (.int cnt), v6, v7, v8, v9, none, none] ∧ Same H H3 ∧ H3 pg = some (.lst (gr.map V.int)) ∧ GI rows ends us gr cnt ∧ m' = rows.length - cnt, fun _ _ h => h, ?_⟩
          -- numbers = {}
          refine fun N hN => ⟨Nat.zero_le _, fun S hS1 => ?_⟩
          have hNS : N ≠ S := ne_of_none upd_same hS1
          have hS0 : H5 S = none := by rw [upd_ne (Ne.symm hNS)] at hS1; exact hS1
          have d0 : NDict P w (upd H5 N (NDo P w N [])) N [] := ⟨upd_same, fun x hx => by cases hx⟩
          have d1 := d0.laid (o := .lst []) hS1
          have e6 : Same H5 (upd (upd H5 N (NDo P w N [])) S (.lst [])) := (sm_new hN).trans (sm_new hS1)
          have hS6 : upd (upd H5 N (NDo P w N [])) S (.lst []) S = some (.lst (([] : List Int).map V.int)) := upd_same
          generalize upd (upd H5 N (NDo P w N [])) S (.lst []) = H6 at d1 e6 hS6
          obtain ⟨ps, hSp, hR⟩ := id hA
          have hpl := hR.length
          have e56 := e5.trans e6
          refine ⟨_, rfl, for_enumQ (hSp.mono e56) (fun i σ H' => ∃ (v4 v8 v9 : Option V) (xs : List NE) (sp : List Int), σ = [some (.ref aA), some (.ref aE), some (.ref aU), some (.ref pg), v4, some (.int cnt), some (.ref N), some (.ref S), v8, v9, none, none] ∧ Same H5 H' ∧ NDict P w H' N xs ∧ H' S = some (.lst (sp.map V.int)) ∧ Cnt xs ∧ SI rows us gr i (xs.map (·.1)) sp)
            ⟨_, _, _, [], [], rfl, e6, d1, hS6, (fun j x h => by simp at h), SI.zero rows us gr⟩ (fun i σ' H' _ ⟨_, _, _, _, _, _, e, _⟩ => keep_of (hSp.mono e5) e6 e) ?_ ?_⟩
          · rintro i x σ' H7 H8 hi ⟨v4, v8, v9, xs, sp, rfl, e7, d7, hS7, cn, si⟩ e78
            have e8 := e7.trans e78
            have d8 := d7.mono e78
            have hS8 := e78 _ _ hS7
            rw [List.getElem?_map] at hi
            cases hp : ps[i]? with
            | none => rw [hp] at hi; cases hi
            | some p =>
              rw [hp] at hi; cases hi
              have hir : i < rows.length := by rw [← hpl]; exact (List.getElem?_eq_some_iff.mp hp).1
              have hti := tg_at (rows := rows) (q := (i : Int)) (by simpa using hir)
              have hti' : rows[i]? = some (tg rows i) := by simpa using hti
              obtain ⟨p', hp', hrow⟩ := All2.get hR hti'
              rw [hp] at hp'; cases hp'
              have hrow5 := hrow.mono e5
              have htm := tg_mem (rows := rows) (q := (i : Int)) (by simpa using hir)
              have hspl : sp.length < sizeLine := by rw [si.len]; exact Nat.lt_of_lt_of_le (by omega : i < 1000) (by decide)
              refine ⟨_, rfl, _, rfl, _, _, _, _, rfl, rfl, .l (e8 _ _ (e5 _ _ hU)), atI_gb (by omega) (by omega), _, rfl, ite2 (fun c => ?_) (fun c => ?_)⟩
              · -- key = (group[state], tuple([..]))
                refine ⟨_, rfl, _, rfl, _, _, _, _, rfl, rfl, .l (e8 _ _ hg5), atI_gi (by omega) (by rw [gi5.len]; omega), ?_⟩
                refine ⟨_, rfl, lc_q (K := K) (hrow5.mono e8) (fun D i' H' => Same H8 H' ∧ H' D = some (.lst ((((tg rows i).take i').map fun t => if 0 ≤ t then gi gr t else -1).map V.int))) (fun D hD => ⟨sm_new hD, by rw [upd_same]; rfl⟩) (fun D i' H' _ p => keep_of (hrow5.mono e8) (Same.refl H8) p.1) ?_ ?_⟩
                · rintro D i' v H' hD hi ⟨e9, hD9⟩
                  obtain ⟨t, ht, rfl⟩ := int_item hi
                  have htl := (ok.inn _ htm t (List.mem_of_getElem? ht)).2
                  have hlen : (tg rows i).length ≤ 4 := ok.thin _ htm
                  have fin : ∀ z : Int, z = (if 0 ≤ t then gi gr t else -1) → ∃ acc, H' D = some (.lst acc) ∧ acc.length < sizeLine ∧ Same H8 (upd H' D (.lst (acc ++ [.int z]))) ∧ upd H' D (.lst (acc ++ [.int z])) D = some (.lst ((((tg rows i).take (i' + 1)).map fun t => if 0 ≤ t then gi gr t else -1).map V.int)) := fun z hz => by
                    refine ⟨_, hD9, ?_, sm_mut e9 hD, ?_⟩
                    · rw [List.length_map, List.length_map, List.length_take]; exact Nat.lt_of_le_of_lt (by omega : _ ≤ 4) (by decide)
                    · rw [upd_same, List.take_add_one, ht, List.map_append, List.map_append, hz]; rfl
                  refine ⟨rfl, _, rfl, _, _, rfl, rfl, _, rfl, ite2 (fun c2 => ?_) (fun c2 => ?_)⟩
                  · have c3 : 0 ≤ t := of_decide_eq_true c2
                    refine ⟨_, rfl, _, rfl, _, _, _, _, rfl, rfl, .l (e9 _ _ (e8 _ _ hg5)), atI_gi c3 (by rw [gi5.len]; exact htl), fin _ (by rw [if_pos c3])⟩
                  · have c3 : ¬ 0 ≤ t := fun z => c2 (decide_eq_true z)
                    exact ⟨_, rfl, fin (-1) (by rw [if_neg c3])⟩
                · rintro D H9 hD ⟨e9, hD9⟩
                  rw [List.length_map, List.take_length] at hD9
                  refine ⟨_, _, rfl, .l hD9, fun l H10 e10 hl => ⟨by show 2 ≤ sizeLine; decide, fun q hq => ?_⟩⟩
                  have e11 : Same H10 (upd H10 q (.tup [.int (gi gr i), .ref l])) := sm_new hq
                  have hk : NKAt (upd H10 q (.tup [.int (gi gr i), .ref l])) q (keyOf rows gr i) := ⟨l, upd_same, e11 _ _ hl⟩
                  generalize upd H10 q (.tup [.int (gi gr i), .ref l]) = H11 at e11 hk
                  have e8b := (e9.trans e10).trans e11
                  have d11 := d8.mono e8b
                  have hS11 := e8b _ _ hS8
                  have e511 := e8.trans e8b
                  have hxl : xs.length < sizeLine := by
                    have := si.few
                    rw [List.length_map] at this
                    exact Nat.lt_of_lt_of_le (by omega : _ < 1000) (by decide)
                  have hN0 : H5 N = none := hN
                  refine ⟨_, rfl, .inl ⟨rfl, _, .of hS11⟩, _, rfl, N, rfl, ⟨_, d11⟩, _, rfl, _, rfl, N, _, rfl, d11, xs, q, _, rfl, d11, hk, hxl, fun x hf => ?_, fun hf => ?_⟩
                  · obtain ⟨j, hj, hkj⟩ := find_at hf
                    rw [cn j x hj]
                    refine ⟨_, _, _, rfl, rfl, hS11, by rw [List.length_map]; exact hspl, _, _, _, xs, sp ++ [(j : Int)], rfl, sm_mut e511 hS0, d11.upd hNS (fun ys z => by rw [hS11] at z; cases z), by rw [upd_same, List.map_append]; rfl, cn, si.old c hkj⟩
                  · have hS12 : upd H11 N (NDo P w N (xs ++ [(keyOf rows gr i, q, V.int (xs.length : Int))])) S = some (.lst (sp.map V.int)) := by rw [upd_ne (Ne.symm hNS)]; exact hS11
                    have d12 : NDict P w (upd H11 N (NDo P w N (xs ++ [(keyOf rows gr i, q, V.int (xs.length : Int))]))) N _ := d11.snoc hk
                    have e12 : Same H5 (upd H11 N (NDo P w N (xs ++ [(keyOf rows gr i, q, V.int (xs.length : Int))]))) := sm_mut e511 hN0
                    refine ⟨_, _, _, rfl, rfl, hS12, by rw [List.length_map]; exact hspl, _, _, _, xs ++ [(keyOf rows gr i, q, V.int (xs.length : Int))], sp ++ [((xs.map (·.1)).length : Int)], rfl, sm_mut e12 hS0, d12.upd hNS (fun ys z => by rw [hS12] at z; cases z), by rw [upd_same, List.map_append, List.length_map]; rfl, cn.snoc _ _, ?_⟩
                    rw [List.map_append]
                    exact si.new c (find_no hf)
              · -- split.append(-1)
                have c' : gb us i = false := by simpa using c
                refine ⟨_, rfl, .inl ⟨rfl, _, .of hS8⟩, _, rfl, _, _, _, rfl, rfl, hS8, by rw [List.length_map]; exact hspl, _, _, _, xs, sp ++ [-1], rfl, sm_mut e8 hS0, d8.upd hNS (fun ys z => by rw [hS8] at z; cases z), by rw [upd_same, List.map_append]; rfl, cn, si.skip c'⟩
          · rintro σ7 H7 ⟨v4, v8, v9, xs, sp, rfl, e7, d7, hS7, cn, si⟩
            rw [List.length_map, hpl] at si
            have hm := si.more gi5
            have hf := si.few
            rw [List.length_map] at hm hf
            refine ⟨_, rfl, N, _, rfl, d7, _, rfl, rfl, _, rfl, ite2 (fun c => ?_) (fun c => ?_)⟩
            · have c' : (xs.length : Int) = cnt := by simpa using c
              exact ⟨_, rfl, k _ _ _ (e5.trans e7) hS7 (si.stable gi5 ok (by rw [List.length_map]; omega))⟩
            · have c' : ¬ (xs.length : Int) = cnt := by simpa using c
              refine ⟨_, rfl, N, _, rfl, d7, _, rfl, rows.length - xs.length, by omega, xs.length, S, sp, _, _, _, _, _, rfl, e5.trans e7, hS7, ?_, rfl⟩
              have := si.next gi5
              rwa [List.length_map] at this
end
end Fy

set_option Elab.async false
set_option linter.all false
set_option maxRecDepth 100000
set_option maxHeartbeats 4000000
namespace Fy
open PySem PySem.Spec PyProof.Rows L2
section
variable {P : Program} {w : World} {K : PySem.W.Frag} {mg : Str → Option Value} {base : Heap}
abbrev N_smallest_of : List Str := ["letters", "arrows", "ends", "useful", "group", "is_end", "state", "number", "members", "rows", "row", "target", "_", "at"]
theorem sc_smallest_of : FnScope N_smallest_of ["letters", "arrows", "ends"] (defScope s_smallest_of) := ⟨rfl, rfl, rfl, by decide +kernel, rfl, by decide +kernel, by decide +kernel⟩
def spSmallOf (C : Addr) : Sp := fun vs H Q _ => ∃ (l : Str) (aA aE : Addr) (rows : List (List Int)) (ends : List Int), vs = [.str l, .ref aA, .ref aE] ∧ Rows H aA rows ∧ Ints H aE ends ∧ LOk l ∧ MOk (cs l).length rows ends ∧
  ∀ H' p rows' ends', Same H H' → MachAt C H' p l rows' ends' → MOk (cs l).length rows' ends' → (∀ ps : List Nat, (∀ p ∈ ps, p < (cs l).length) → acc rows' ends' ps = acc rows ends ps) → Q (.ref p) H'
theorem ok_smallest_of (T : Tx K mg) : Has P w K mg base CX0 5 (He.ga K "smallest_of") ["letters", "arrows", "ends"] (spSmallOf (CM K)) := by
  have G_useful_states := ok_useful_states (P := P) (w := w) (base := base) T
  have G_nothing := ok_nothing (P := P) (w := w) (base := base) T
  have G_rest_groups := ok_rest_groups (P := P) (w := w) (base := base) T
  have G_Machine_init := ok_Machine_init (P := P) (w := w) (base := base) T
  obtain ⟨t_MOST, h_MOST_STATES⟩ := T.h_MOST_STATES
  refine has_of T.f_smallest_of sc_smallest_of (fun _ _ _ _ _ _ us hl => match us, hl with | [_, _, _], _ => rfl) (fun vs H Q E h => ?_) (fun cdv A outer s H vs Q E hr h => ?_)
  · obtain ⟨l, aA, aE, rows, ends, rfl, _⟩ := h
    rfl
  · obtain ⟨l, aA, aE, rows, ends, rfl, hA, hE, lo, mo, k⟩ := h
    have hu := hu_of hr
    have ok := mo.rok lo.four
    have p0 := ok.pos
    have few := mo.few
    have hef : ends.length ≤ 1000 := by
      have := nodup_few rows.length ends (mo.asc.imp (fun z => Int.ne_of_lt z)) mo.inn
      omega
    obtain ⟨xsA, hS, hSl⟩ := hA.len
    refine ⟨_, (pss_cons (ps_set (i := 3) sc_smallest_of.nd rfl (Or.inl rfl) (pe_c G_useful_states (hr.mono (by decide)) T.g_useful_states (pa_cons (pv 1) (pa_cons (pv 2) pa_nil))))
    (pss_cons (ps_if (pt_not (pt_val (pe_ix ix_q (pv 3) (pe_int) (fun _ _ => rfl))))
    (pss_one (ps_ret (pe_c G_nothing (hr.mono (by decide)) T.g_nothing (pa_cons (pv 0) pa_nil))))
    (pss_nil))
    (pss_cons (ps_set (i := 4) sc_smallest_of.nd rfl (Or.inl rfl) (pe_c G_rest_groups (hr.mono (by decide)) T.g_rest_groups (pa_cons (pv 1) (pa_cons (pv 2) (pa_cons (pv 3) pa_nil)))))
    (pss_cons (ps_set (i := 5) sc_smallest_of.nd rfl (Or.inr rfl) (pe_lc (own := [("_", 12)]) rfl sc_smallest_of.nd (pi_q (pv 1)) (blkOk_by (own := [("_", 12)]) (N := N_smallest_of) (sc := defScope s_smallest_of) (by decide +kernel)) (fun _ _ _ _ _ => pg_name (i := 12) sc_smallest_of.nd rfl (Or.inl rfl)) (fun _ _ _ _ _ => pts_nil) (fun _ _ _ _ _ => pe_bl)))
    (pss_cons (ps_for PassesOwn.never rfl (pi_q (pv 2)) (pg_name (i := 6) sc_smallest_of.nd rfl (Or.inl rfl))
    (pss_one (ps_asg (pe_bl) (pg_sub (pv 5) (pv 6) set_list))))
    (pss_cons (ps_set (i := 7) sc_smallest_of.nd rfl (Or.inl rfl) (pe_disp (pps_cons (pe_ix ix_q (pv 4) (pe_int) (fun _ _ => rfl)) (pe_int) pps_nil) (by rfl) (by rfl) (fun z => by cases z) (by decide)))
    (pss_cons (ps_set (i := 8) sc_smallest_of.nd rfl (Or.inl rfl) (pe_lst (pa_cons (pe_int) pa_nil)))
    (pss_cons (ps_set (i := 9) sc_smallest_of.nd rfl (Or.inl rfl) (pe_lst pa_nil))
    (pss_cons (ps_while PassesOwn.never (pt_cmpR op_lt (pe_callB call_lenQ (by rfl) T.z_len PySem.boot_len (pa_cons (pv 9) pa_nil)) (pe_callB call_lenQ (by rfl) T.z_len PySem.boot_len (pa_cons (pv 8) pa_nil)) (nomark _))
    (pss_cons (ps_set (i := 10) sc_smallest_of.nd rfl (Or.inl rfl) (pe_lst pa_nil))
      (pss_cons (ps_for PassesOwn.never rfl (pi_q (pe_ix ix_q (pv 1) (pe_ix ix_q (pv 8) (pe_callB call_lenQ (by rfl) T.z_len PySem.boot_len (pa_cons (pv 9) pa_nil)) (fun _ _ => rfl)) (fun _ _ => rfl))) (pg_name (i := 11) sc_smallest_of.nd rfl (Or.inl rfl))
      (pss_one (ps_if (PW.pt (pw_and (pt_cmpR op_ge (pv 11) (pe_int) (nomark _)) (pw_and1 (pt_val (pe_ix ix_q (pv 3) (pv 11) (fun _ _ => rfl))))))
        (Evl.pss_cut (ps_if (pt_cmp (pc_dnotin hu (pe_ix ix_q (pv 4) (pv 11) (fun _ _ => rfl)) (pv 7)) (by rfl))
          (pss_cons (ps_dput hu (pv 7) (pe_ix ix_q (pv 4) (pv 11) (fun _ _ => rfl)) (pe_callB call_lenQ (by rfl) T.z_len PySem.boot_len (pa_cons (pv 8) pa_nil)) rfl)
            (pss_one (ps_expr (pe_bm PySem.F.plainAttrs_list PySem.F.slot_list_append PySem.F.type_list_append mt_append (pv 8) (pa_cons (pv 11) pa_nil)))))
          (pss_nil))
          (pss_one (ps_expr (pe_bm PySem.F.plainAttrs_list PySem.F.slot_list_append PySem.F.type_list_append mt_append (pv 10) (pa_cons (pe_dget hu (pv 7) (pe_ix ix_q (pv 4) (pv 11) (fun _ _ => rfl)) (fun _ _ => rfl)) pa_nil)))))
        (pss_one (ps_expr (pe_bm PySem.F.plainAttrs_list PySem.F.slot_list_append PySem.F.type_list_append mt_append (pv 10) (pa_cons (pe_un un_neg (pe_int)) pa_nil)))))))
      (pss_one (ps_expr (pe_bm PySem.F.plainAttrs_list PySem.F.slot_list_append PySem.F.type_list_append mt_append (pv 9) (pa_cons (pv 10) pa_nil)))))))
    (pss_cons (ps_if (pt_cmpR op_gt (pe_callB call_lenQ (by rfl) T.z_len PySem.boot_len (pa_cons (pv 9) pa_nil)) (pe_glob (v := .int 128) rfl h_MOST_STATES ⟨_, rfl⟩) (nomark _))
    (pss_one (ps_never))
    (pss_nil))
    (pss_one (ps_ret (pe_mk T.m_Machine G_Machine_init (hr.mono (by decide)) T.g_Machine (pa_cons (pv 0) (pa_cons (pv 9) (pa_cons (pe_lc (g := gTup K 2 (gCons (gName 13) (gCons (gName 6) gNil))) (own := [("at", 13), ("state", 6)]) rfl sc_smallest_of.nd (pi_enumQ (by rfl) T.z_enumerate (pa_cons (pv 8) pa_nil)) (blkOk_by (own := [("at", 13), ("state", 6)]) (N := N_smallest_of) (sc := defScope s_smallest_of) (by decide +kernel)) (fun _ _ _ _ _ => pg_tup rfl (pgs_cons (pg_name (i := 13) sc_smallest_of.nd rfl (Or.inl rfl)) (pgs_cons (pg_name (i := 6) sc_smallest_of.nd rfl (Or.inl rfl)) pgs_nil))) (fun _ _ _ _ _ => pts_one (pt_val (pe_ix ix_q (pv 5) (pv 6) (fun _ _ => rfl)))) (fun _ _ _ _ _ => pv 13)) pa_nil)))))))))))))))), ?_⟩
    -- useful = useful_states(arrows, ends)
    refine ⟨_, rfl, _, rfl, aA, aE, rows, ends, rfl, hA, hE, ok, by omega, hef, mo.inn, fun H1 pu us e1 hU usf => ?_⟩
    have hul := usf.1
    refine ⟨_, rfl, _, _, _, _, rfl, rfl, .l hU, atI_gb (by decide) (by omega), _, rfl, ite2 (fun c => ?_) (fun c => ?_)⟩
    · have c' : gb us 0 = false := by simpa using c
      exact ⟨_, rfl, l, rfl, lo, fun H2 p e2 hM => k _ _ _ _ (e1.trans e2) hM (mok_nothing _) fun ps hp => by rw [acc_nothing, acc_dead mo usf c' ps hp]⟩
    have u0 : gb us 0 = true := by simpa using c
    -- group = rest_groups(..)
    refine ⟨_, rfl, _, rfl, _, rfl, aA, aE, pu, rows, ends, us, rfl, hA.mono e1, hE.mono e1, hU, ok, by omega, hul, mo.inn, fun H2 pg sp e12 hG st => ?_⟩
    have e2 := e1.trans e12
    have hU2 := e12 _ _ hU
    -- is_end = [False for _ in arrows]
    refine ⟨_, rfl, lc_q (K := K) (hS.mono e2) (fun D i H' => Same H2 H' ∧ H' D = some (.lst ((List.replicate i false).map V.bl))) (fun D hD => ⟨sm_new hD, upd_same⟩) (fun D i H' _ p => keep_of (hS.mono e2) (Same.refl _) p.1) ?_ ?_⟩
    · rintro D i v H' hD hi ⟨e, h1⟩
      have hlt : i < 1000 := by have := (List.getElem?_eq_some_iff.mp hi).1; omega
      refine ⟨rfl, _, h1, by rw [List.length_map, List.length_replicate]; exact Nat.lt_of_lt_of_le hlt (by decide), sm_mut e hD, ?_⟩
      rw [upd_same, List.replicate_succ', List.map_append]; rfl
    rintro D H3 hD ⟨e23, hD3⟩
    rw [hSl] at hD3
    -- for state in ends: is_end[state] = True
    refine ⟨_, rfl, for_q (hE.mono (e2.trans e23)) (fun i σ H' => ∃ (v6 : Option V) (bs : List Bool), σ = [some (.str l), some (.ref aA), some (.ref aE), some (.ref pu), some (.ref pg), some (.ref D), v6, none, none, none, none, none, none, none] ∧ Same H2 H' ∧ H' D = some (.lst (bs.map V.bl)) ∧ bs.length = rows.length ∧
      ∀ q : Int, 0 ≤ q → q < rows.length → gb bs q = decide (q ∈ ends.take i)) ⟨_, _, rfl, e23, hD3, List.length_replicate, fun q q0 q1 => ?_⟩ (fun i σ' H' _ ⟨_, _, _, e, _⟩ => keep_of (hE.mono e2) e23 e) ?_ ?_⟩
    · rw [List.take_zero]
      unfold gb
      rw [getD_some (v := false) (by rw [List.getElem?_replicate, if_pos (by omega)])]
      simp
    · rintro i v σ2 H4 hi ⟨w6, bs, rfl, e4, hD4, hbl, hb⟩
      obtain ⟨e, he, rfl⟩ := int_item hi
      obtain ⟨i0, i1⟩ := mo.inn e (List.mem_of_getElem? he)
      refine ⟨_, rfl, _, rfl, _, _, _, e.toNat, rfl, rfl, hD4, ixN_int i0 (by rw [List.length_map]; omega), ?_⟩
      rw [map_set_bl]
      refine ⟨_, _, rfl, sm_mut e4 hD, upd_same, by rw [List.length_set]; exact hbl, fun q q0 q1 => ?_⟩
      rw [gb_set, hb q q0 q1]
      by_cases c1 : q = e
      · subst c1
        rw [decide_eq_true ((mem_take_succ he q).mpr (.inr rfl)), decide_eq_true (show q.toNat = q.toNat ∧ q.toNat < bs.length by omega), Bool.or_true]
      · have : q ∈ ends.take (i + 1) ↔ q ∈ ends.take i := by rw [mem_take_succ he q]; exact ⟨fun z => z.resolve_right c1, .inl⟩
        rw [decide_eq_false (show ¬ (q.toNat = e.toNat ∧ e.toNat < bs.length) by omega), Bool.or_false]
        exact (decide_eq_decide.mpr this).symm
    rintro σ2 H4 ⟨w6, bs, rfl, e24, hD4, hbl, hb⟩
    rw [List.length_map, List.take_length] at hb
    have e4 := e2.trans e24
    have hU4 := e24 _ _ hU2
    have hG4 := e24 _ _ hG
    clear hD3 hD e23 hU hG
    -- number = {group[0]: 0}
    refine fun N hN => ⟨_, rfl, _, _, _, _, rfl, rfl, .l (sm_new hN _ _ hG4), atI_gi (by decide) (by rw [st.len]; omega), upd_same, [(.inl (gi sp 0), V.int 0)], rfl, by show 1 ≤ 15; decide, ?_⟩
    rw [upd_upd]
    refine ⟨by show 1 ≤ sizeLine; decide, fun M hM => ⟨Nat.zero_le _, fun R hR => ?_⟩⟩
    have e5 : Same H4 (upd (upd (upd H4 N (.dK (mergeK [] [(.inl (gi sp 0), V.int 0)]))) M (.lst [V.int 0])) R (.lst [])) := (sm_new hN).trans ((sm_new hM).trans (sm_new hR))
    have nMN : M ≠ N := Ne.symm (ne_of_none upd_same hM)
    have nRM : R ≠ M := Ne.symm (ne_of_none upd_same hR)
    have nRN : R ≠ N := Ne.symm (ne_of_none (by rw [upd_ne (Ne.symm nMN)]; exact upd_same) hR)
    have fM : H4 M = none := by rw [upd_ne nMN] at hM; exact hM
    have fR : H4 R = none := by rw [upd_ne nRM, upd_ne nRN] at hR; exact hR
    have hN5 : upd (upd (upd H4 N (.dK (mergeK [] [(.inl (gi sp 0), V.int 0)]))) M (.lst [V.int 0])) R (.lst []) N = some (.dK (mergeK [] [(.inl (gi sp 0), V.int 0)])) := by rw [upd_ne (Ne.symm nRN), upd_ne (Ne.symm nMN)]; exact upd_same
    have hM5 : upd (upd (upd H4 N (.dK (mergeK [] [(.inl (gi sp 0), V.int 0)]))) M (.lst [V.int 0])) R (.lst []) M = some (.lst [V.int 0]) := by rw [upd_ne (Ne.symm nRM)]; exact upd_same
    have hR5 : upd (upd (upd H4 N (.dK (mergeK [] [(.inl (gi sp 0), V.int 0)]))) M (.lst [V.int 0])) R (.lst []) R = some (.lst []) := upd_same
    generalize upd (upd (upd H4 N (.dK (mergeK [] [(.inl (gi sp 0), V.int 0)]))) M (.lst [V.int 0])) R (.lst []) = H5 at e5 hN5 hM5 hR5
    clear hM hR
    have mi0 : MI rows us sp [0] := ⟨rfl, fun q hq => by rw [List.mem_singleton.mp hq]; exact ⟨by decide, by omega, u0⟩, List.nodup_cons.mpr ⟨List.not_mem_nil, List.nodup_nil⟩⟩
    -- while len(rows) < len(members)
    refine ⟨fun m σ H' => ∃ (v6 v10 v11 : Option V) (kvs : List (Key × V)) (ms : List Int) (qs : List Addr) (rs : List (List Int)), σ = [some (.str l), some (.ref aA), some (.ref aE), some (.ref pu), some (.ref pg), some (.ref D), v6, some (.ref N), some (.ref M), some (.ref R), v10, v11, none, none] ∧ Same H4 H' ∧
      H' N = some (.dK kvs) ∧ NumD kvs sp ms ∧ H' M = some (.lst (ms.map V.int)) ∧ H' R = some (.lst (qs.map V.ref)) ∧ FinR H' qs rs ∧ (∀ q ∈ qs, q ≠ N ∧ q ≠ M ∧ q ≠ R) ∧ MI rows us sp ms ∧ RD rows us sp ms rs ∧ rs.length ≤ ms.length ∧ m = rows.length - rs.length,
      ⟨_, _, _, _, _, [0], [], [], rfl, e5, hN5, NumD.one sp, hM5, hR5, trivial, (fun q hq => by cases hq), mi0, (fun i r h => by simp at h), Nat.zero_le _, rfl⟩, ?_⟩
    rintro m σ' H6 ⟨v6, v10, v11, kvs, ms, qs, rs, rfl, e6, hN6, nd6, hM6, hR6, fin6, qn6, mi, rd, hle, rfl⟩
    have hql : qs.length = rs.length := fin6.length
    have hms := mi.few
    refine ⟨_, rfl, _, _, rfl, .l hR6, _, rfl, _, _, rfl, .l hM6, _, _, rfl, rfl, _, rfl, ite2 (fun c => ?_) (fun c => ?_)⟩
    · have c' := of_decide_eq_true c
      rw [List.length_map, List.length_map, hql] at c'
      have hlt : rs.length < ms.length := by omega
      have hq0 := List.getElem?_eq_getElem hlt
      obtain ⟨q0n, q0l, q0u⟩ := mi.inn _ (List.getElem_mem hlt)
      generalize ms[rs.length] = q0 at hq0 q0n q0l q0u
      refine ⟨fun σ2 H3 => ∃ m', m' < rows.length - rs.length ∧ ∃ (v6 v10 v11 : Option V) (kvs : List (Key × V)) (ms : List Int) (qs : List Addr) (rs : List (List Int)), σ2 = [some (.str l), some (.ref aA), some (.ref aE), some (.ref pu), some (.ref pg), some (.ref D), v6, some (.ref N), some (.ref M), some (.ref R), v10, v11, none, none] ∧ Same H4 H3 ∧
        H3 N = some (.dK kvs) ∧ NumD kvs sp ms ∧ H3 M = some (.lst (ms.map V.int)) ∧ H3 R = some (.lst (qs.map V.ref)) ∧ FinR H3 qs rs ∧ (∀ q ∈ qs, q ≠ N ∧ q ≠ M ∧ q ≠ R) ∧ MI rows us sp ms ∧ RD rows us sp ms rs ∧ rs.length ≤ ms.length ∧ m' = rows.length - rs.length, fun _ _ h => h, ?_⟩
      -- row = []
      refine ⟨Nat.zero_le _, fun W hW => ?_⟩
      have nWN : W ≠ N := Ne.symm (ne_of_none hN6 hW)
      have nWM : W ≠ M := Ne.symm (ne_of_none hM6 hW)
      have nWR : W ≠ R := Ne.symm (ne_of_none hR6 hW)
      have nWq := fin6.new hW
      have fW : H4 W = none := e6.free hW
      have e7 : Same H4 (upd H6 W (.lst [])) := sm_laid e6 hW
      have hN7 : upd H6 W (.lst []) N = some (.dK kvs) := by rw [upd_ne (Ne.symm nWN)]; exact hN6
      have hM7 : upd H6 W (.lst []) M = some (.lst (ms.map V.int)) := by rw [upd_ne (Ne.symm nWM)]; exact hM6
      have hR7 : upd H6 W (.lst []) R = some (.lst (qs.map V.ref)) := by rw [upd_ne (Ne.symm nWR)]; exact hR6
      have hW7 : upd H6 W (.lst []) W = some (.lst (([] : List Int).map V.int)) := upd_same
      have fin7 : FinR (upd H6 W (.lst [])) qs rs := fin6.upd nWq
      generalize upd H6 W (.lst []) = H7 at e7 hN7 hM7 hR7 hW7 fin7
      clear hW
      obtain ⟨p, xs, hSq, hat, hrow⟩ := hA.item q0n q0l
      have htm := tg_mem (rows := rows) (q := q0) (by omega)
      have hthin := ok.thin _ htm
      -- for target in arrows[members[len(rows)]]
      refine ⟨_, rfl, _, rfl, _, rfl, _, _, rfl, .l hR7, M, (rs.length : Int), _, .int q0, rfl, (by rw [List.length_map, hql]), .l hM7, atI_nat (by rw [List.getElem?_map, hq0]; rfl), _, _, _, .ref p, rfl, rfl, hSq.mono (e4.trans e7), hat,
        for_q (hrow.mono (e4.trans e7)) (fun i σ H' => ∃ (v11 : Option V) (kvs : List (Key × V)) (ms : List Int) (r : List Int), σ = [some (.str l), some (.ref aA), some (.ref aE), some (.ref pu), some (.ref pg), some (.ref D), v6, some (.ref N), some (.ref M), some (.ref R), some (.ref W), v11, none, none] ∧
          SmW H4 rows us sp N M R W qs rs q0 ((tg rows q0).take i) H' kvs ms r)
          ⟨_, kvs, ms, [], rfl, e7, hN7, nd6, hM7, hR7, hW7, fin7, mi, rd, hq0, by rw [List.take_zero]; exact trivial⟩ (fun i σ' H' _ ⟨_, _, _, _, _, z⟩ => keep_of (hrow.mono e4) e7 z.sm) ?_ ?_⟩
      · clear hN7 hM7 hR7 hW7 fin7 mi rd hq0 hN6 hM6 hR6 nd6 c c' hlt hle hms fin6
        rintro i v σ2 H8 hi ⟨w11, kvs, ms, r, rfl, S⟩
        obtain ⟨t, ht, rfl⟩ := int_item hi
        obtain ⟨_, t1⟩ := ok.inn _ htm t (List.mem_of_getElem? ht)
        have tk : (tg rows q0).take (i + 1) = (tg rows q0).take i ++ [t] := by rw [List.take_add_one, ht]; rfl
        have hrl : ∀ {H8 kvs ms r}, SmW H4 rows us sp N M R W qs rs q0 ((tg rows q0).take i) H8 kvs ms r → (r.map V.int).length < sizeLine := fun S => by
          have := S.rr.length
          rw [List.length_take] at this
          rw [List.length_map]
          exact Nat.lt_of_le_of_lt (by omega : _ ≤ 4) (by decide)
        have els : ¬ (0 ≤ t ∧ gb us t = true) → SmW H4 rows us sp N M R W qs rs q0 ((tg rows q0).take (i + 1)) (upd H8 W (.lst (r.map V.int ++ [.int (-1)]))) kvs ms (r ++ [-1]) := fun hn => by
          rw [tk]; exact S.put fW (Ne.symm nWN) (Ne.symm nWM) (Ne.symm nWR) nWq (.inr ⟨hn, rfl⟩)
        refine ⟨_, rfl, _, _, rfl, rfl, _, rfl, ite2 (fun c1 => ?_) (fun c1 => ?_)⟩
        · have t0 : 0 ≤ t := of_decide_eq_true c1
          refine ⟨_, rfl, _, rfl, _, _, _, _, rfl, rfl, .l (S.sm _ _ hU4), atI_gb t0 (by omega), _, rfl, ite2 (fun c2 => ?_) (fun c2 => ?_)⟩
          · have tu : gb us t = true := c2
            have hms := S.mi.few
            have hkl := S.nd.1
            have gat : atI (sp.map V.int) t = some (.int (gi sp t)) := atI_gi t0 (by rw [st.len]; exact t1)
            refine ⟨fun σ' H' => σ' = [some (.str l), some (.ref aA), some (.ref aE), some (.ref pu), some (.ref pg), some (.ref D), v6, some (.ref N), some (.ref M), some (.ref R), some (.ref W), some (.int t), none, none] ∧ ∃ kvs ms v, SmW H4 rows us sp N M R W qs rs q0 ((tg rows q0).take i) H' kvs ms r ∧ valV kvs (.inl (gi sp t)) = some v, ?_, ?_⟩
            · refine ⟨_, rfl, _, rfl, _, _, _, _, rfl, rfl, .l (S.sm _ _ hG4), gat, _, rfl, N, _, rfl, DGet.k (k := .inl (gi sp t)) S.hN, _, rfl, ite2 (fun c3 => ?_) (fun c3 => ?_)⟩
              · have hno : valV kvs (.inl (gi sp t)) = none := by
                  cases z : valV kvs (.inl (gi sp t)) with
                  | none => rfl
                  | some v => rw [z] at c3; exact absurd c3 (by simp)
                have hn := (S.nd.2 _).2 hno
                have S' := S.more hN fM nMN nRN nWN nRM nWM (fun q hq => ⟨(qn6 q hq).1, (qn6 q hq).2.1⟩) t0 t1 tu hn
                refine ⟨_, rfl, _, _, rfl, .l S.hM, _, rfl, _, rfl, _, rfl, _, _, _, _, rfl, rfl, .l (S.sm _ _ hG4), gat, N, _, rfl, DPut.k (k := .inl (gi sp t)) S.hN (Nat.lt_of_le_of_lt (by omega : _ ≤ 1000) (by decide)), ?_⟩
                rw [List.length_map]
                have hM9 : upd H8 N (.dK (putK kvs (.inl (gi sp t)) (V.int (ms.length : Int)))) M = some (.lst (ms.map V.int)) := by rw [upd_ne nMN]; exact S.hM
                refine ⟨_, rfl, .inl ⟨rfl, _, .of hM9⟩, _, rfl, _, _, _, rfl, rfl, hM9, by rw [List.length_map]; exact Nat.lt_of_le_of_lt (by omega : _ ≤ 1000) (by decide), rfl, _, _, V.int (ms.length : Int), S', ?_⟩
                rw [valV_put, if_pos rfl]
              · cases z : valV kvs (.inl (gi sp t)) with
                | none => rw [z] at c3; exact absurd rfl c3
                | some v => exact ⟨rfl, kvs, ms, v, S, z⟩
            · rintro σ' H9 ⟨rfl, kvs', ms', v, S', hv⟩
              obtain ⟨j, m, hj, em, rfl⟩ := (S'.nd.2 _).1 v hv
              have S2 := S'.put fW (Ne.symm nWN) (Ne.symm nWM) (Ne.symm nWR) nWq (t := t) (x := (j : Int)) (.inl ⟨t0, tu, by omega, m, by simpa using hj, em⟩)
              rw [← tk] at S2
              exact ⟨_, rfl, .inl ⟨rfl, _, .of S'.hW⟩, _, rfl, _, rfl, _, rfl, _, _, _, _, rfl, rfl, .l (S'.sm _ _ hG4), gat, N, _, rfl, (by rw [← hv]; exact DGet.k (k := .inl (gi sp t)) S'.hN), _, _, _, rfl, rfl, S'.hW, hrl S', _, _, _, _, rfl, S2⟩
          · have S2 := els (fun z => c2 z.2)
            exact ⟨_, rfl, .inl ⟨rfl, _, .of S.hW⟩, _, rfl, _, _, _, rfl, rfl, S.hW, hrl S, _, _, _, _, rfl, S2⟩
        · have S2 := els (fun z => c1 (decide_eq_true z.1))
          exact ⟨_, rfl, .inl ⟨rfl, _, .of S.hW⟩, _, rfl, _, _, _, rfl, rfl, S.hW, hrl S, _, _, _, _, rfl, S2⟩
      · rintro σ7 H8 ⟨w11, kvs8, ms8, r, rfl, S⟩
        rw [List.length_map, List.take_length] at S
        have hms8 := S.mi.few
        have hl8 := (List.getElem?_eq_some_iff.mp S.at0).1
        -- rows.append(row)
        refine ⟨_, rfl, .inl ⟨rfl, _, .of S.hR⟩, _, rfl, _, _, _, rfl, rfl, S.hR, by rw [List.length_map, hql]; exact Nat.lt_of_le_of_lt (by omega : _ ≤ 1000) (by decide), rows.length - (rs.length + 1), by omega, _, _, _, kvs8, ms8, qs ++ [W], rs ++ [r], rfl, sm_mut S.sm fR,
          by rw [upd_ne (Ne.symm nRN)]; exact S.hN, S.nd, by rw [upd_ne (Ne.symm nRM)]; exact S.hM, by rw [upd_same, List.map_append]; rfl, ?_, ?_, S.mi, S.rd.snoc S.at0 S.rr, ?_, by rw [List.length_append]; rfl⟩
        · exact All2.snoc (S.fin.upd fun q hq => (qn6 q hq).2.2) (by rw [upd_ne nWR]; exact S.hW)
        · intro q hq
          rcases List.mem_append.mp hq with z | z
          · exact qn6 q z
          · rw [List.mem_singleton.mp z]; exact ⟨nWN, nWM, nWR⟩
        · rw [List.length_append, List.length_singleton]; omega
    · have hle2 : ¬ rs.length < ms.length := fun z => c (decide_eq_true (by rw [List.length_map, List.length_map, hql]; omega))
      have heq : rs.length = ms.length := by omega
      clear c
      -- if len(rows) > MOST_STATES
      refine ⟨_, rfl, _, _, rfl, .l hR6, _, _, rfl, rfl, _, rfl, ite2 (fun c => ?_) (fun c => ?_)⟩
      · have := of_decide_eq_true c
        rw [List.length_map, hql] at this
        omega
      · -- Machine(letters, rows, [..])
        refine ⟨_, rfl, _, rfl, _, rfl, lc_enumQ (K := K) (.l hM6) (fun L i H' => Same H6 H' ∧ H' L = some (.lst ((fends ends ms i).map V.int))) (fun L hL => ⟨sm_new hL, by rw [upd_same]; rfl⟩) (fun L i H' _ p o h => p.1 _ _ h) ?_ ?_⟩
        · rintro L i v H7 H8 hL hi ⟨e7, hL7⟩ e78
          obtain ⟨q, hq, rfl⟩ := int_item hi
          have mq := mi.inn q (List.mem_of_getElem? hq)
          have e8 := e7.trans e78
          refine ⟨rfl, _, rfl, _, rfl, _, _, _, _, rfl, rfl, .l (e8 _ _ (e6 _ _ hD4)), atI_gb mq.1 (by omega), _, rfl, ite2 (fun c2 => ?_) (fun c2 => ?_)⟩
          · have hm : q ∈ ends := by
              have := hb q mq.1 mq.2.1
              rw [c2] at this
              exact of_decide_eq_true this.symm
            refine ⟨_, rfl, _, e78 _ _ hL7, ?_, sm_mut (e7.trans e78) hL, ?_⟩
            · have : (fends ends ms i).length ≤ i := by
                unfold fends
                rw [List.length_map]
                exact Nat.le_trans (List.length_filter_le _ _) (by rw [List.length_range]; exact Nat.le_refl _)
              have := (List.getElem?_eq_some_iff.mp hq).1
              rw [List.length_map]; exact Nat.lt_of_le_of_lt (by omega : _ ≤ 1000) (by decide)
            · rw [upd_same, fends_succ, getD_some hq, if_pos hm, List.map_append]; rfl
          · have hm : ¬ q ∈ ends := by
              intro z
              have := hb q mq.1 mq.2.1
              rw [decide_eq_true z] at this
              exact c2 this
            refine ⟨e7.trans e78, ?_⟩
            rw [fends_succ, getD_some hq, if_neg hm, List.append_nil]
            exact e78 _ _ hL7
        · rintro L H7 hL ⟨e7, hL7⟩
          rw [List.length_map] at hL7
          refine fun x dx nx ndx nex => ?_
          have s0 : Same H7 (upd (upd H7 dx (.own x)) x (.ins (CM K) dx [])) := fun b o e => by
            rw [upd_ne (ne_of_none e nx), upd_ne (ne_of_none e ndx)]
            exact e
          have fin8 : FinR H7 qs rs := All2.imp (fun _ _ z => e7 _ _ z) fin6
          exact ⟨H7, x, dx, l, R, L, rs, fends ends ms ms.length, rfl, s0, nx, upd_same, fin8.rows (e7 _ _ hR6), .l hL7, lo, mok_small mo mi rd heq, fun H8 e8 hM => ⟨rfl, k _ _ _ _ (e4.trans (e6.trans (e7.trans e8))) hM (mok_small mo mi rd heq) (acc_small mo usf st mi rd heq u0)⟩⟩
end
end Fy

set_option Elab.async false
set_option linter.all false
set_option maxRecDepth 100000
set_option maxHeartbeats 4000000
namespace Fy
open PySem PySem.Spec PyProof.Rows L2 NdefX
section
variable {P : Program} {w : World} {K : PySem.W.Frag} {mg : Str → Option Value} {base : Heap}
abbrev CBW (K : PySem.W.Frag) : Addr := He.ga K "BadWord"
/-! ### BadWord(word, place) -/
abbrev N_BadWord : List Str := ["self", "word", "place", "__class__"]
def spBW (C : Addr) : Sp := fun vs H Q _ => ∃ (a : Addr) (x : Str) (i : Nat), vs = [.ref a, .str x, .int (i : Nat)] ∧ H a = some (exo a C none) ∧
  ∀ dx, H dx = none → dx ≠ a → Q .non (upd (upd (upd H dx (exd dx [("word", .str x)])) a (exo a C (some dx))) dx (exd dx [("place", .int (i : Nat)), ("word", .str x)]))
theorem ok_BadWord (TQ : Tq P K mg) : ∃ fd, FnOk P w K mg base CX0 1 (u_BadWord.at_ K) fd ["self", "word", "place"] (spBW (CBW K)) ∧ Binds K fd ["self", "word", "place"] [] := by
  refine fn_super (N := N_BadWord) (C := CBW K) (cc := ccAt K (u_BadWord.at_ K)) (F := u_BadWord.F K) (k := 0) TQ.s_BadWord.s (nscope_by (sc := u_BadWord.scope) (by decide +kernel)) rfl TQ.z_super rfl rfl rfl rfl (fun vs H Q E h => ?_) (by decide) (fun vs H Q E h => ?_) (fun L => rfl) (fun L => rfl) (fun L => rfl)
    (fun _ _ _ us hl => match us, hl with | [_, _, _], _ => rfl) (fun A outer s H vs Q E hr h => ?_)
  · obtain ⟨a, x, i, rfl, _⟩ := h; rfl
  · obtain ⟨a, x, i, rfl, e, _⟩ := h; exact ⟨a, rfl, e⟩
  · obtain ⟨a, x, i, rfl, ea, k⟩ := h
    refine ⟨_, pss_cons (ps_ost (pv 0) (pv 1)) (pss_one (ps_ost (pv 0) (pv 2))), ?_⟩
    refine ⟨_, rfl, _, rfl, a, CBW K, rfl, TQ.s_BadWord.s.T, TQ.n_BadWord_word, .inl ⟨ea, fun dx nx ne => ?_⟩⟩
    exact ⟨_, rfl, _, rfl, a, CBW K, rfl, TQ.s_BadWord.s.T, TQ.n_BadWord_place, .inr ⟨dx, _, upd_same, by rw [upd_ne ne]; exact upd_same, by show 1 ≤ 900; decide, k dx nx ne⟩⟩
/-- the first sign that is none of the letters stands at i -/
def BadAt (l x : Str) (i : Nat) : Prop := ∃ c, (cs x)[i]? = some c ∧ c ∉ cs l ∧ ∀ (j : Nat) c', j < i → (cs x)[j]? = some c' → c' ∈ cs l
abbrev xbw (x : Str) (i : Nat) : HO := .xd [("place", .int (i : Nat)), ("word", .str x)]
/-- a word that is refused -/
def RefW (K : PySem.W.Frag) (l x : Str) (H : Hp) (E : XK) : Prop := ∀ i, BadAt l x i → ∀ H' d, Same H H' → H' d = some (xbw x i) → E (.ref (CBW K)) (some d) H'
theorem RefW.mono {K : PySem.W.Frag} {l x : Str} {H H' : Hp} {E : XK} (h : RefW K l x H E) (e : Same H H') : RefW K l x H' E := fun i b H2 d e2 hd => h i b H2 d (e.trans e2) hd
theorem bw_same {G H1 : Hp} {a dx : Addr} {o1 o2 o3 : HO} (e : Same G H1) (ha : H1 a = none) (nx : upd H1 a o1 dx = none) (ne : dx ≠ a) {o4 o5 : HO} : Same G (upd (del (upd (upd (upd (upd H1 a o1) dx o2) a o3) dx o4) a) dx o5) := fun b u hb => by
  have h1 := e b u hb
  have n1 : b ≠ a := ne_of_none h1 ha
  have n2 : b ≠ dx := by rintro rfl; rw [upd_ne ne, h1] at nx; cases nx
  rw [upd_ne n2, del_ne n1, upd_ne n2, upd_ne n1, upd_ne n2, upd_ne n1]
  exact h1
abbrev N_check_word : List Str := ["letters", "word", "place", "letter"]
theorem sc_check_word : FnScope N_check_word ["letters", "word"] (defScope s_check_word) := ⟨rfl, rfl, rfl, by decide +kernel, rfl, by decide +kernel, by decide +kernel⟩
def spCheckWordX (K : PySem.W.Frag) : Sp := fun vs H Q E => ∃ l x : Str, vs = [.str l, .str x] ∧ (WOk l x → ∀ H', Same H H' → Q .non H') ∧ RefW K l x H E
theorem okX_check_word (TQ : Tq P K mg) : Has P w K mg base (L2.CX P w) 3 (He.ga K "check_word") ["letters", "word"] (spCheckWordX K) := by
  have T := TQ.t
  have I_BadWord := ok_BadWord (w := w) (base := base) TQ
  refine has_ofX T.f_check_word sc_check_word (fun _ _ _ _ _ _ us hl => match us, hl with | [_, _], _ => rfl) (fun vs H Q E h => ?_) (fun cdv A outer s H vs Q E hr h => ?_)
  · obtain ⟨l, x, rfl, _⟩ := h
    rfl
  · obtain ⟨l, x, rfl, k, kx⟩ := h
    refine ⟨_, (pss_one (ps_for (passes_of rfl) rfl (pi_enumS (by rfl) T.z_enumerate (pa_cons (pv 1) pa_nil)) (pg_tup rfl (pgs_cons (pg_name (i := 2) sc_check_word.nd rfl (Or.inl rfl)) (pgs_cons (pg_name (i := 3) sc_check_word.nd rfl (Or.inl rfl)) pgs_nil)))
    (pss_one (ps_if (pt_cmpR op_notIn_sign (pv 3) (pv 0) (by rfl))
      (pss_one (ps_rO rfl (takes_of rfl rfl rfl rfl) TQ.s_BadWord.s.T TQ.s_BadWord.i TQ.s_BadWord.t I_BadWord (hr.mono (by decide)) T.g_BadWord (pa_cons (pv 1) (pa_cons (pv 2) pa_nil))))
      (pss_nil))))), ?_⟩
    refine ⟨_, rfl, x, rfl, for_it walk_E (fun i σ H' => ∃ a b, σ = [some (.str l), some (.str x), a, b] ∧ Same H H' ∧ ∀ (j : Nat) c', j < i → (cs x)[j]? = some c' → c' ∈ cs l) ⟨_, _, rfl, Same.refl _, fun j c' hj => by omega⟩ (fun _ _ _ _ _ => trivial) ?_ ?_⟩
    · rintro i y σ' H1 H2 hi ⟨a, b, rfl, hs, hall⟩ ⟨T', x', z, rfl, hT, rfl, h1, h2⟩
      cases h1
      obtain ⟨c, hc, rfl⟩ : ∃ c, x.cps[i]? = some c ∧ V.str (sg c) = z := by
        unfold sgn at h2
        cases e : x.cps[i]? with
        | none => rw [e] at h2; cases h2
        | some c => rw [e] at h2; exact ⟨c, rfl, Option.some.inj h2⟩
      have hc' : (cs x)[i]? = some c := by simpa using hc
      refine ⟨T', _, rfl, .of upd_same, rfl, _, _, rfl, _, _, rfl, rfl, ?_⟩
      have hs2 := sm_laid (o := .tup [.int (i : Nat), .str (sg c)]) hs hT
      generalize upd H1 T' (.tup [.int (i : Nat), .str (sg c)]) = H2 at hs2
      refine ⟨_, rfl, _, rfl, c, _, rfl, rfl, _, rfl, ite2 (fun z => ?_) (fun z => ?_)⟩
      · have hb : c ∉ cs l := by simpa using z
        refine ⟨_, rfl, _, rfl, by show 2 ≤ 1000; decide, fun a ha => ⟨a, x, i, rfl, upd_same, fun dx nx ne => ⟨rfl, dx, _, ?_, upd_same, ?_, kx i ⟨c, hc', hb, hall⟩ _ dx ?_ upd_same⟩⟩⟩
        · rw [upd_ne (Ne.symm ne), upd_same]; rfl
        · rw [upd_ne ne] at nx; exact nx
        · exact bw_same hs2 ha nx ne
      · have hb : c ∈ cs l := by simpa using z
        refine ⟨_, _, rfl, hs2, fun j c' hj hc2 => ?_⟩
        rcases Nat.lt_succ_iff_lt_or_eq.mp hj with y | y
        · exact hall j c' y hc2
        · subst y; rw [hc'] at hc2; cases hc2; exact hb
    · rintro σ' H1 ⟨a, b, rfl, hs, hall⟩
      refine k (fun c hc => ?_) _ hs
      obtain ⟨j, hj⟩ := List.getElem?_of_mem hc
      refine hall j c ?_ hj
      have := (List.getElem?_eq_some_iff.mp hj).1
      simpa using this
abbrev N_Machine_run : List Str := ["self", "word", "state", "letter"]
theorem sc_Machine_run : FnScope N_Machine_run ["self", "word"] (defScope s_Machine_run) := ⟨rfl, rfl, rfl, by decide +kernel, rfl, by decide +kernel, by decide +kernel⟩
def spRun (K : PySem.W.Frag) : Sp := fun vs H Q E => ∃ (p : Addr) (l x : Str) (rows : List (List Int)) (ends : List Int), vs = [.ref p, .str x] ∧ MachAt (CM K) H p l rows ends ∧ LOk l ∧ MOk (cs l).length rows ends ∧ (WOk l x →
  ∀ H', Same H H' → Q (.int (run1 rows 0 (ix l x))) H') ∧ RefW K l x H E
theorem ok_Machine_run (TQ : Tq P K mg) : Has P w K mg base (L2.CX P w) 4 (He.ma K (CM K) "run") ["self", "word"] (spRun K) := by
  have T := TQ.t
  have G_check_word := okX_check_word (w := w) (base := base) TQ
  refine has_ofX T.f_Machine_run sc_Machine_run (fun _ _ _ _ _ _ us hl => match us, hl with | [_, _], _ => rfl) (fun vs H Q E h => ?_) (fun cdv A outer s H vs Q E hr h => ?_)
  · obtain ⟨p, l, x, rows, ends, rfl, _⟩ := h
    rfl
  · obtain ⟨p, l, x, rows, ends, rfl, ⟨dx, a, e, hp, ⟨ps, ha, hR⟩, he⟩, lo, mo, k, kx⟩ := h
    have hlen := hR.length
    refine ⟨_, (pss_cons (ps_expr (pe_cX G_check_word (hr.mono (by decide)) T.g_check_word pX (pa_cons (pe_fld (pv 0) rfl) (pa_cons (pv 1) pa_nil))))
    (pss_cons (ps_set (i := 2) sc_Machine_run.nd rfl (Or.inl rfl) (pe_int))
    (pss_cons (ps_for (passes_of rfl) rfl (pi_str (pv 1)) (pg_name (i := 3) sc_Machine_run.nd rfl (Or.inl rfl))
    (pss_one (ps_if (pt_cmpR op_ge (pv 2) (pe_int) (nomark _))
      (pss_one (ps_set (i := 2) sc_Machine_run.nd rfl (Or.inl rfl) (pe_ix ix_q (pe_ix ix_q (pe_fld (pv 0) rfl) (pv 2) (fun _ _ => rfl)) (pe_bm PySem.F.plainAttrs_str PySem.F.slot_str_index PySem.F.type_str_index mt_ix (pe_fld (pv 0) rfl) (pa_cons (pv 3) pa_nil)) (fun _ _ => rfl))))
      (pss_nil))))
    (pss_one (ps_ret (pv 2)))))), ?_⟩
    refine ⟨_, rfl, p, _, dx, _, _, rfl, hp, T.c_Machine, T.n_Machine_letters, mf_letters _ _ _, _, rfl, l, x, rfl, fun wo H1 e1 => ?_, kx⟩
    refine ⟨_, rfl, x, rfl, for_it walk_str (fun i σ H' => ∃ v, σ = [some (.ref p), some (.str x), some (.int (run1 rows 0 ((ix l x).take i))), v] ∧ H' = H1) ⟨_, rfl, rfl⟩ (fun _ _ _ _ _ => trivial) ?_ ?_⟩
    · rintro i v σ' H2 H3 hi ⟨v', rfl, rfl⟩ ⟨rfl, c, hc, rfl⟩
      have hc' : (cs x)[i]? = some c := by simpa using hc
      have hm := wo c (List.mem_of_getElem? hc')
      have hix : (ix l x)[i]? = some ((cs l).idxOf c) := by unfold ix; rw [List.getElem?_map, hc']; rfl
      have tk : (ix l x).take (i + 1) = (ix l x).take i ++ [(cs l).idxOf c] := by rw [List.take_add_one, hix]; rfl
      obtain ⟨r0, r1⟩ := run1_range mo ((ix l x).take i) 0 (by decide) (by have := mo.pos; omega) (fun q hq => ix_lt wo q (List.mem_of_mem_take hq))
      refine ⟨_, rfl, _, _, rfl, rfl, _, rfl, ite2 (fun z => ?_) (fun z => ?_)⟩
      · have z' := of_decide_eq_true z
        have hq : (run1 rows 0 ((ix l x).take i)).toNat < rows.length := by omega
        obtain ⟨p2, hp2, hr2⟩ := All2.get hR (List.getElem?_eq_getElem hq)
        have hlt : (cs l).idxOf c < (rows[(run1 rows 0 ((ix l x).take i)).toNat]).length := by rw [(mo.wide _ (List.getElem_mem hq)).1]; exact List.idxOf_lt_length_of_mem hm
        refine ⟨_, rfl, p, _, dx, _, _, rfl, e1 _ _ hp, T.c_Machine, T.n_Machine_arrows, mf_arrows _ _ _, _, rfl, _, _, _, _, rfl, rfl, .t (e1 _ _ ha), atI_int z' (by rw [List.getElem?_map, hp2]; rfl), ?_⟩
        refine ⟨_, rfl, p, _, dx, _, _, rfl, e1 _ _ hp, T.c_Machine, T.n_Machine_letters, mf_letters _ _ _, rfl, _, rfl, l, c, _, rfl, rfl, lo.nodup, idx_at hm, _, _, _, _, rfl, rfl, .t (e1 _ _ hr2), atI_nat (by rw [List.getElem?_map, List.getElem?_eq_getElem hlt]; rfl), ?_⟩
        refine ⟨some (.str (sg c)), ?_, rfl⟩
        rw [tk, run1_snoc]
        unfold stp
        rw [if_neg (by omega), getD_some (List.getElem?_eq_getElem hq), getD_some (List.getElem?_eq_getElem hlt)]
        rfl
      · have z' : ¬ (0 ≤ run1 rows 0 ((ix l x).take i)) := fun y => z (decide_eq_true y)
        refine ⟨some (.str (sg c)), ?_, rfl⟩
        rw [tk, run1_snoc]
        unfold stp
        rw [if_pos (by omega)]
        have : run1 rows 0 ((ix l x).take i) = -1 := by omega
        rw [this]
        rfl
    · rintro σ' H2 ⟨v', rfl, rfl⟩
      have : (ix l x).take x.cps.size = ix l x := by
        apply List.take_of_length_le
        unfold ix
        simp
      rw [this]
      exact ⟨_, rfl, k wo _ e1⟩
abbrev N_Machine_contains : List Str := ["self", "word"]
theorem sc_Machine_contains : FnScope N_Machine_contains ["self", "word"] (defScope s_Machine_contains) := ⟨rfl, rfl, rfl, by decide +kernel, rfl, by decide +kernel, by decide +kernel⟩
def spCont (K : PySem.W.Frag) : Sp := fun vs H Q E => ∃ (p : Addr) (l x : Str) (rows : List (List Int)) (ends : List Int), vs = [.ref p, .str x] ∧ MachAt (CM K) H p l rows ends ∧ LOk l ∧ MOk (cs l).length rows ends ∧ (WOk l x →
  ∀ H', Same H H' → Q (.bl (acc rows ends (ix l x))) H') ∧ RefW K l x H E
theorem ok_Machine_contains (TQ : Tq P K mg) : Has P w K mg base (L2.CX P w) 5 (He.ma K (CM K) "__contains__") ["self", "word"] (spCont K) := by
  have T := TQ.t
  have G_Machine_run := ok_Machine_run (w := w) (base := base) TQ
  refine has_ofX T.f_Machine_contains sc_Machine_contains (fun _ _ _ _ _ _ us hl => match us, hl with | [_, _], _ => rfl) (fun vs H Q E h => ?_) (fun cdv A outer s H vs Q E hr h => ?_)
  · obtain ⟨p, l, x, rows, ends, rfl, _⟩ := h
    rfl
  · obtain ⟨p, l, x, rows, ends, rfl, hM, lo, mo, k, kx⟩ := h
    obtain ⟨dx, a, e, hp, hU, he⟩ := id hM
    refine ⟨_, (pss_one (ps_ret (pe_cmpR op_inQ (pe_mtX (pv 0) T.c_Machine T.k_Machine_run G_Machine_run (hr.mono (by decide)) pX (pa_cons (pv 1) pa_nil)) (pe_fld (pv 0) rfl) (by rfl)))), ?_⟩
    refine ⟨_, rfl, p, dx, _, rfl, hp, mf_no _ _ _ (sn "run" "letters") (sn "run" "arrows") (sn "run" "ends"), _, rfl, p, l, x, rows, ends, rfl, hM, lo, mo, fun wo H1 e1 => ?_, kx⟩
    refine ⟨_, rfl, p, _, dx, _, _, rfl, e1 _ _ hp, T.c_Machine, T.n_Machine_ends, mf_ends _ _ _, _, _, rfl, .t (e1 _ _ he), rfl, flat_ints _, ?_⟩
    show Q (.bl (inV _ _)) _
    rw [inV_ints]
    exact k wo _ e1
abbrev N_check_same_letters : List Str := ["first", "second"]
theorem sc_check_same_letters : FnScope N_check_same_letters ["first", "second"] (defScope s_check_same_letters) := ⟨rfl, rfl, rfl, by decide +kernel, rfl, by decide +kernel, by decide +kernel⟩
def spSameL (K : PySem.W.Frag) : Sp := fun vs H Q E => ∃ (p q : Addr) (l l' : Str) (A : List (List Int)) (EA : List Int) (B : List (List Int)) (EB : List Int), vs = [.ref p, .ref q] ∧ MachAt (CM K) H p l A EA ∧ MachAt (CM K) H q l' B EB ∧ (l = l' → Q .non H) ∧ (l ≠ l' → E (.ref (He.ga K "BadLetters")) none H)
theorem ok_check_same_letters (TQ : Tq P K mg) : Has P w K mg base (L2.CX P w) 1 (He.ga K "check_same_letters") ["first", "second"] (spSameL K) := by
  have T := TQ.t
  refine has_ofX T.f_check_same_letters sc_check_same_letters (fun _ _ _ _ _ _ us hl => match us, hl with | [_, _], _ => rfl) (fun vs H Q E h => ?_) (fun cdv A outer s H vs Q E hr h => ?_)
  · obtain ⟨p, q, l, l', A, EA, B, EB, rfl, _⟩ := h
    rfl
  · obtain ⟨p, q, l, l', A, EA, B, EB, rfl, ⟨dx, a, e, hp, _⟩, ⟨dx2, a2, e2, hq, _⟩, k, kx⟩ := h
    refine ⟨_, (pss_one (ps_if (pt_cmpR op_ne (pe_fld (pv 0) rfl) (pe_fld (pv 1) rfl) (nomark _))
    (pss_one (ps_rP rfl (takes_of rfl rfl rfl rfl) TQ.e_BadLetters T.g_BadLetters))
    (pss_nil))), ?_⟩
    refine ⟨_, rfl, p, _, dx, _, _, rfl, hp, T.c_Machine, T.n_Machine_letters, mf_letters _ _ _, _, rfl, q, _, dx2, _, _, rfl, hq, T.c_Machine, T.n_Machine_letters, mf_letters _ _ _, rfl, _, rfl, ite2 (fun c => ?_) (fun c => ?_)⟩
    · exact kx (by rintro rfl; simp at c)
    · exact k (by simpa using c)
end
end Fy

set_option Elab.async false
set_option linter.all false
set_option maxRecDepth 100000
set_option maxHeartbeats 4000000
namespace Fy
open PySem PySem.Spec PyProof.Rows L2
section
variable {P : Program} {w : World} {K : PySem.W.Frag} {mg : Str → Option Value} {base : Heap}
abbrev N_smallest : List Str := ["machine"]
theorem sc_smallest : FnScope N_smallest ["machine"] (defScope s_smallest) := ⟨rfl, rfl, rfl, by decide +kernel, rfl, by decide +kernel, by decide +kernel⟩
def spSmall (C : Addr) : Sp := fun vs H Q _ => ∃ (p : Addr) (l : Str) (rows : List (List Int)) (ends : List Int), vs = [.ref p] ∧ MachAt C H p l rows ends ∧ LOk l ∧ MOk (cs l).length rows ends ∧
  ∀ H' p' rows' ends', Same H H' → MachAt C H' p' l rows' ends' → MOk (cs l).length rows' ends' → (∀ ps : List Nat, (∀ p ∈ ps, p < (cs l).length) → acc rows' ends' ps = acc rows ends ps) → Q (.ref p') H'
theorem ok_smallest (T : Tx K mg) : Has P w K mg base CX0 6 (He.ga K "smallest") ["machine"] (spSmall (CM K)) := by
  have G_smallest_of := ok_smallest_of (P := P) (w := w) (base := base) T
  refine has_of T.f_smallest sc_smallest (fun _ _ _ _ _ _ us hl => match us, hl with | [_], _ => rfl) (fun vs H Q E h => ?_) (fun cdv A outer s H vs Q E hr h => ?_)
  · obtain ⟨p, l, rows, ends, rfl, _⟩ := h
    rfl
  · obtain ⟨p, l, rows, ends, rfl, hM, lo, mo, k⟩ := h
    obtain ⟨dx, a, e, hp, hU, he⟩ := id hM
    refine ⟨_, (pss_one (ps_ret (pe_c G_smallest_of (hr.mono (by decide)) T.g_smallest_of (pa_cons (pe_fld (pv 0) rfl) (pa_cons (pe_fld (pv 0) rfl) (pa_cons (pe_fld (pv 0) rfl) pa_nil)))))), ?_⟩
    exact ⟨_, rfl, p, _, dx, _, _, rfl, hp, T.c_Machine, T.n_Machine_letters, mf_letters _ _ _, _, rfl, p, _, dx, _, _, rfl, hp, T.c_Machine, T.n_Machine_arrows, mf_arrows _ _ _, _, rfl, p, _, dx, _, _, rfl, hp, T.c_Machine, T.n_Machine_ends, mf_ends _ _ _,
      l, a, e, rows, ends, rfl, hU.rows, .t he, lo, mo, k⟩
abbrev N_step : List Str := ["machine", "state", "at"]
theorem sc_step : FnScope N_step ["machine", "state", "at"] (defScope s_step) := ⟨rfl, rfl, rfl, by decide +kernel, rfl, by decide +kernel, by decide +kernel⟩
def spStep (C : Addr) : Sp := fun vs H Q _ => ∃ (p : Addr) (l : Str) (rows : List (List Int)) (ends : List Int) (q : Int) (j : Nat), vs = [.ref p, .int q, .int (j : Nat)] ∧ MachAt C H p l rows ends ∧ MOk (cs l).length rows ends ∧ -1 ≤ q ∧ q < rows.length ∧ j < (cs l).length ∧ Q (.int (stp rows q j)) H
theorem ok_step (T : Tx K mg) : Has P w K mg base CX0 1 (He.ga K "step") ["machine", "state", "at"] (spStep (CM K)) := by
  refine has_of T.f_step sc_step (fun _ _ _ _ _ _ us hl => match us, hl with | [_, _, _], _ => rfl) (fun vs H Q E h => ?_) (fun cdv A outer s H vs Q E hr h => ?_)
  · obtain ⟨p, l, rows, ends, q, j, rfl, _⟩ := h
    rfl
  · obtain ⟨p, l, rows, ends, q, j, rfl, ⟨dx, a, e, hp, hU, he⟩, mo, q0, q1, hj, k⟩ := h
    refine ⟨_, (pss_cons (ps_if (pt_cmpR op_lt (pv 1) (pe_int) (nomark _))
    (pss_one (ps_ret (pe_un un_neg (pe_int))))
    (pss_nil))
    (pss_one (ps_ret (pe_ix ix_q (pe_ix ix_q (pe_fld (pv 0) rfl) (pv 1) (fun _ _ => rfl)) (pv 2) (fun _ _ => rfl))))), ?_⟩
    refine ⟨_, rfl, _, _, rfl, rfl, _, rfl, ite2 (fun c => ?_) (fun c => ?_)⟩
    · have c' : q < 0 := of_decide_eq_true c
      have : stp rows q j = -1 := by unfold stp; rw [if_pos c']
      rw [this] at k
      exact ⟨_, rfl, k⟩
    · have c' : 0 ≤ q := by
        have : ¬ q < 0 := fun z => c (decide_eq_true z)
        omega
      obtain ⟨t, ht, et, _⟩ := mo.at c' q1 hj
      obtain ⟨pr, xs, hS, hat, hrow⟩ := hU.rows.item c' q1
      rw [et] at k
      exact ⟨_, rfl, p, _, dx, _, _, rfl, hp, T.c_Machine, T.n_Machine_arrows, mf_arrows _ _ _, _, rfl, _, _, _, .ref pr, rfl, rfl, hS, hat, _, rfl, _, _, _, .int t, rfl, rfl, hrow, atI_nat (by rw [List.getElem?_map, ht]; rfl), k⟩
abbrev N_first_difference : List Str := ["first", "second", "either", "seen", "queue", "at", "word", "left", "right", "held", "other", "place", "letter", "pair"]
theorem sc_first_difference : FnScope N_first_difference ["first", "second", "either"] (defScope s_first_difference) := ⟨rfl, rfl, rfl, by decide +kernel, rfl, by decide +kernel, by decide +kernel⟩
def spDiff (C : Addr) : Sp := fun vs H Q _ => ∃ (p q : Addr) (l : Str) (A : List (List Int)) (EA : List Int) (B : List (List Int)) (EB : List Int), vs = [.ref p, .ref q, .bl true] ∧ MachAt C H p l A EA ∧ MachAt C H q l B EB ∧ LOk l ∧ MOk (cs l).length A EA ∧ MOk (cs l).length B EB ∧
  ∀ H' r, Same H H' → IsPart (cs l).length A EA B EB r → Q (optW l r) H'
theorem ok_first_difference (TQ : Tq P K mg) : Has P w K mg base CX0 2 (He.ga K "first_difference") ["first", "second", "either"] (spDiff (CM K)) := by
  have T := TQ.t
  have G_check_same_letters := ok_check_same_letters (w := w) (base := base) TQ
  have G_step := ok_step (P := P) (w := w) (base := base) T
  refine has_of T.f_first_difference sc_first_difference (fun _ _ _ _ _ _ us hl => match us, hl with | [_, _, _], _ => rfl) (fun vs H Q E h => ?_) (fun cdv A0 outer s H vs Q E hr h => ?_)
  · obtain ⟨p, q, l, A, EA, B, EB, rfl, _⟩ := h
    rfl
  · obtain ⟨p, q, l, A, EA, B, EB, rfl, hMA, hMB, lo, mA, mB, k⟩ := h
    have hu := hu_of hr
    refine ⟨_, (pss_cons (ps_expr (pe_cX G_check_same_letters (hr.mono (by decide)) T.g_check_same_letters passL (pa_cons (pv 0) (pa_cons (pv 1) pa_nil))))
    (pss_cons (ps_set (i := 3) sc_first_difference.nd rfl (Or.inl rfl) (pe_disp1T (Nat.lt_of_succ_lt hu) (pe_tup (pa_cons (pe_int) (pa_cons (pe_int) pa_nil))) (pe_bl)))
    (pss_cons (ps_set (i := 4) sc_first_difference.nd rfl (Or.inl rfl) (pe_lst (pa_cons (pe_tup (pa_cons (pe_str) (pa_cons (pe_int) (pa_cons (pe_int) pa_nil)))) pa_nil)))
    (pss_cons (ps_set (i := 5) sc_first_difference.nd rfl (Or.inl rfl) (pe_int))
    (pss_cons (ps_while PassesOwn.never (pt_cmpR op_lt (pv 5) (pe_callB call_lenQ (by rfl) T.z_len PySem.boot_len (pa_cons (pv 4) pa_nil)) (nomark _))
    (pss_cons (ps_asg (pe_ix ix_q (pv 4) (pv 5) (fun _ _ => rfl)) (pg_tup rfl (pgs_cons (pg_name (i := 6) sc_first_difference.nd rfl (Or.inl rfl)) (pgs_cons (pg_name (i := 7) sc_first_difference.nd rfl (Or.inl rfl)) (pgs_cons (pg_name (i := 8) sc_first_difference.nd rfl (Or.inl rfl)) pgs_nil)))))
      (pss_cons (ps_aug (i := 5) sc_first_difference.nd rfl (.inl rfl) (pe_int) ip_add)
      (pss_cons (ps_set (i := 9) sc_first_difference.nd rfl (Or.inl rfl) (pe_cmpR op_inQ (pv 7) (pe_fld (pv 0) rfl) (by rfl)))
      (pss_cons (ps_set (i := 10) sc_first_difference.nd rfl (Or.inl rfl) (pe_cmpR op_inQ (pv 8) (pe_fld (pv 1) rfl) (by rfl)))
      (Evl.pss_cut (ps_if (PW.pt (pw_or (PW.pt (pw_and (pt_val (pv 9)) (pw_and1 (pt_not (pt_val (pv 10)))))) (pw_or1 (PW.pt (pw_and (pt_val (pv 2)) (pw_and (pt_val (pv 10)) (pw_and1 (pt_not (pt_val (pv 9))))))))))
      (pss_one (ps_ret (pv 6)))
      (pss_nil))
      (pss_one (ps_for PassesOwn.never rfl (pi_enumS (by rfl) T.z_enumerate (pa_cons (pe_fld (pv 0) rfl) pa_nil)) (pg_tup rfl (pgs_cons (pg_name (i := 11) sc_first_difference.nd rfl (Or.inl rfl)) (pgs_cons (pg_name (i := 12) sc_first_difference.nd rfl (Or.inl rfl)) pgs_nil)))
      (pss_cons (ps_set (i := 13) sc_first_difference.nd rfl (Or.inl rfl) (pe_tup (pa_cons (pe_c G_step (hr.mono (by decide)) T.g_step (pa_cons (pv 0) (pa_cons (pv 7) (pa_cons (pv 11) pa_nil)))) (pa_cons (pe_c G_step (hr.mono (by decide)) T.g_step (pa_cons (pv 1) (pa_cons (pv 8) (pa_cons (pv 11) pa_nil)))) pa_nil))))
        (pss_one (ps_if (pt_cmp (pc_dnotin hu (pv 13) (pv 3)) (by rfl))
        (pss_cons (ps_dput hu (pv 3) (pv 13) (pe_bl) rfl)
          (pss_one (ps_expr (pe_bm PySem.F.plainAttrs_list PySem.F.slot_list_append PySem.F.type_list_append mt_append (pv 4) (pa_cons (pe_tup (pa_cons (pe_op op_add_str (pv 6) (pv 12)) (pa_cons (pe_ix ix_q (pv 13) (pe_int) (fun _ _ => rfl)) (pa_cons (pe_ix ix_q (pv 13) (pe_int) (fun _ _ => rfl)) pa_nil)))) pa_nil)))))
        (pss_nil))))))))))))
    (pss_one (ps_ret (pe_non)))))))), ?_⟩
    refine ⟨_, rfl, _, rfl, p, q, l, l, A, EA, B, EB, rfl, hMA, hMB, fun _ => ?_, fun z => absurd rfl z⟩
    refine fun S hS => ⟨by show 2 ≤ sizeLine; decide, fun t ht => ⟨t, kp (0, 0), rfl, upd_same, (by rw [upd_ne (ne_of_none upd_same ht)]; exact upd_same), ?_⟩⟩
    have hS1 : upd (upd H S (.dT [])) t (.tup [.int 0, .int 0]) S = some (.dT []) := by rw [upd_ne (ne_of_none upd_same ht)]; exact upd_same
    have e1 : Same H (upd (upd (upd H S (.dT [])) t (.tup [.int 0, .int 0])) S (.dT [(kp (0, 0), .bl true)])) := sm_mut (sm_laid (sm_new hS) ht) hS
    have hS2 : upd (upd (upd H S (.dT [])) t (.tup [.int 0, .int 0])) S (.dT [(kp (0, 0), .bl true)]) S = some (.dT [(kp (0, 0), .bl true)]) := upd_same
    generalize upd (upd (upd H S (.dT [])) t (.tup [.int 0, .int 0])) S (.dT [(kp (0, 0), .bl true)]) = H1 at e1 hS2
    -- queue = [('', 0, 0)]
    refine ⟨by show 3 ≤ sizeLine; decide, fun t2 ht2 => ⟨by show 1 ≤ sizeLine; decide, fun U hU => ?_⟩⟩
    have fU : H U = none := (e1.trans (sm_new ht2)).free hU
    have nUS : U ≠ S := Ne.symm (ne_of_none (sm_new ht2 _ _ hS2) hU)
    have e2 : Same H (upd (upd H1 t2 (.tup [.str "", .int 0, .int 0])) U (.lst [.ref t2])) := e1.trans ((sm_new ht2).trans (sm_new hU))
    have hS3 : upd (upd H1 t2 (.tup [.str "", .int 0, .int 0])) U (.lst [.ref t2]) S = some (.dT [(kp (0, 0), .bl true)]) := (sm_new ht2).trans (sm_new hU) _ _ hS2
    have hU3 : upd (upd H1 t2 (.tup [.str "", .int 0, .int 0])) U (.lst [.ref t2]) U = some (.lst (([t2] : List Addr).map V.ref)) := upd_same
    have hQ3 : QAt l A B (upd (upd H1 t2 (.tup [.str "", .int 0, .int 0])) U (.lst [.ref t2])) [t2] [[]] := ⟨sm_new hU _ _ upd_same, trivial⟩
    generalize upd (upd H1 t2 (.tup [.str "", .int 0, .int 0])) U (.lst [.ref t2]) = H3 at e2 hS3 hU3 hQ3
    clear hU ht2 hS2 e1 hS1 ht
    obtain ⟨dxA, aA, eA, hpA, hUA, heA⟩ := id hMA
    obtain ⟨dxB, aB, eB, hpB, hUB, heB⟩ := id hMB
    -- while at < len(queue)
    refine ⟨fun m σ H' => ∃ (v6 v7 v8 v9 v10 v11 v12 v13 : Option V) (kvs : List (List Key × V)) (ps : List Addr) (qs : List (List Nat)) (j : Nat), σ = [some (.ref p), some (.ref q), some (.bl true), some (.ref S), some (.ref U), some (.int (j : Nat)), v6, v7, v8, v9, v10, v11, v12, v13] ∧ Same H H' ∧
      H' S = some (.dT kvs) ∧ SeenD kvs (qs.map (prW A B)) ∧ H' U = some (.lst (ps.map V.ref)) ∧ QAt l A B H' ps qs ∧ BF (cs l).length A B EA EB qs j 0 ∧ m = (A.length + 1) * (B.length + 1) - j,
      ⟨_, _, _, _, _, _, _, _, _, _, [t2], [[]], 0, rfl, e2, hS3, SeenD.one _ _, hU3, hQ3, BF.zero _ _ _ _ _, rfl⟩, ?_⟩
    rintro m σ' H4 ⟨v6, v7, v8, v9, v10, v11, v12, v13, kvs, ps, qs, j, rfl, e4, hS4, sd, hU4, hQ4, bf, rfl⟩
    have hql : ps.length = qs.length := hQ4.length
    have few := bf.few mA mB
    have big : (A.length + 1) * (B.length + 1) ≤ 129 * 129 := Nat.mul_le_mul (by have := mA.few; omega) (by have := mB.few; omega)
    refine ⟨_, rfl, _, rfl, _, _, rfl, .l hU4, _, _, rfl, rfl, _, rfl, ite2 (fun c => ?_) (fun c => ?_)⟩
    · have c' := of_decide_eq_true c
      rw [List.length_map, hql] at c'
      have hj : j < qs.length := by omega
      refine ⟨fun σ2 H3 => ∃ m', m' < (A.length + 1) * (B.length + 1) - j ∧ ∃ (v6 v7 v8 v9 v10 v11 v12 v13 : Option V) (kvs : List (List Key × V)) (ps : List Addr) (qs : List (List Nat)) (j : Nat), σ2 = [some (.ref p), some (.ref q), some (.bl true), some (.ref S), some (.ref U), some (.int (j : Nat)), v6, v7, v8, v9, v10, v11, v12, v13] ∧ Same H H3 ∧
        H3 S = some (.dT kvs) ∧ SeenD kvs (qs.map (prW A B)) ∧ H3 U = some (.lst (ps.map V.ref)) ∧ QAt l A B H3 ps qs ∧ BF (cs l).length A B EA EB qs j 0 ∧ m' = (A.length + 1) * (B.length + 1) - j, fun _ _ h => h, ?_⟩
      have hw := List.getElem?_eq_getElem hj
      generalize qs[j] = wd at hw
      obtain ⟨pt, hpt, hT⟩ := All2.get hQ4 hw
      -- word, left, right = queue[at]
      refine ⟨_, rfl, _, rfl, _, _, _, .ref pt, rfl, rfl, .l hU4, atI_nat (by rw [List.getElem?_map, hpt]; rfl), pt, _, rfl, .of hT, rfl, _, _, rfl, _, _, rfl, _, _, rfl, rfl, ?_⟩
      -- at += 1
      refine ⟨_, rfl, _, _, rfl, rfl, ?_⟩
      -- held, other
      refine ⟨_, rfl, _, rfl, p, _, dxA, _, _, rfl, e4 _ _ hpA, T.c_Machine, T.n_Machine_ends, mf_ends _ _ _, _, _, rfl, .t (e4 _ _ heA), rfl, flat_ints _, ?_⟩
      refine ⟨_, rfl, _, rfl, q, _, dxB, _, _, rfl, e4 _ _ hpB, T.c_Machine, T.n_Machine_ends, mf_ends _ _ _, _, _, rfl, .t (e4 _ _ heB), rfl, flat_ints _, ?_⟩
      rw [if_neg (by decide), if_neg (by decide), inV_ints, inV_ints]
      have hdf : df EA EB (prW A B wd) = (decide ((prW A B wd).1 ∈ EA) != decide ((prW A B wd).2 ∈ EB)) := rfl
      have wok := bf.val wd (List.mem_of_getElem? hw)
      obtain ⟨rA0, rA1⟩ := run1_range mA wd 0 (by decide) (by have := mA.pos; omega) wok
      obtain ⟨rB0, rB1⟩ := run1_range mB wd 0 (by decide) (by have := mB.pos; omega) wok
      refine ⟨fun σ' H' => σ' = [some (.ref p), some (.ref q), some (.bl true), some (.ref S), some (.ref U), some (.int ((j + 1 : Nat) : Int)), some (.str (wt l wd)), some (.int (prW A B wd).1), some (.int (prW A B wd).2), some (.bl (decide ((prW A B wd).1 ∈ EA))), some (.bl (decide ((prW A B wd).2 ∈ EB))), v11, v12, v13] ∧ H4 = H' ∧ df EA EB (prW A B wd) = false, ?_, ?_⟩
      · have ret : df EA EB (prW A B wd) = true → Q (.str (wt l wd)) H4 := fun hd => k _ (some wd) e4 (bf.found hw hd)
        generalize decide ((prW A B wd).1 ∈ EA) = b1 at hdf
        generalize decide ((prW A B wd).2 ∈ EB) = b2 at hdf
        cases b1 <;> cases b2
        · exact ⟨_, rfl, _, rfl, ite2 (fun z => by cases z) (fun _ => ite2 (fun z => by cases z) (fun _ => ⟨_, rfl, _, rfl, ite2 (fun _ => ⟨_, rfl, _, rfl, ite2 (fun z => by cases z) (fun _ => ite2 (fun z => by cases z) (fun _ => ⟨rfl, rfl, hdf⟩))⟩) (fun z => absurd rfl z)⟩))⟩
        · exact ⟨_, rfl, _, rfl, ite2 (fun z => by cases z) (fun _ => ite2 (fun z => by cases z) (fun _ => ⟨_, rfl, _, rfl, ite2 (fun _ => ⟨_, rfl, _, rfl, ite2 (fun _ => ⟨_, rfl, _, rfl, ite2 (fun _ => ⟨_, rfl, ret hdf⟩) (fun z => absurd rfl z)⟩) (fun z => absurd rfl z)⟩) (fun z => absurd rfl z)⟩))⟩
        · exact ⟨_, rfl, _, rfl, ite2 (fun _ => ⟨_, rfl, _, rfl, ite2 (fun _ => ite2 (fun _ => ⟨_, rfl, ret hdf⟩) (fun z => absurd rfl z)) (fun z => absurd rfl z)⟩) (fun z => absurd rfl z)⟩
        · exact ⟨_, rfl, _, rfl, ite2 (fun _ => ⟨_, rfl, _, rfl, ite2 (fun z => by cases z) (fun _ => ⟨_, rfl, _, rfl, ite2 (fun _ => ⟨_, rfl, _, rfl, ite2 (fun _ => ⟨_, rfl, _, rfl, ite2 (fun z => by cases z) (fun _ => ⟨rfl, rfl, hdf⟩)⟩) (fun z => absurd rfl z)⟩) (fun z => absurd rfl z)⟩)⟩) (fun z => absurd rfl z)⟩
      · rintro σ' H5 ⟨rfl, rfl, hsame⟩
        refine ⟨_, rfl, p, _, dxA, _, _, rfl, e4 _ _ hpA, T.c_Machine, T.n_Machine_letters, mf_letters _ _ _, l, rfl, for_it walk_E (fun i σ H' => ∃ (v11 v12 v13 : Option V) (kvs : List (List Key × V)) (ps : List Addr) (qs : List (List Nat)), σ = [some (.ref p), some (.ref q), some (.bl true), some (.ref S), some (.ref U), some (.int ((j + 1 : Nat) : Int)), some (.str (wt l wd)), some (.int (prW A B wd).1), some (.int (prW A B wd).2), some (.bl (decide ((prW A B wd).1 ∈ EA))), some (.bl (decide ((prW A B wd).2 ∈ EB))), v11, v12, v13] ∧ Same H H' ∧
          H' S = some (.dT kvs) ∧ SeenD kvs (qs.map (prW A B)) ∧ H' U = some (.lst (ps.map V.ref)) ∧ QAt l A B H' ps qs ∧ qs[j]? = some wd ∧ BF (cs l).length A B EA EB qs j i) ⟨_, _, _, kvs, ps, qs, rfl, e4, hS4, sd, hU4, hQ4, hw, bf⟩ (fun _ _ _ _ _ => trivial) ?_ ?_⟩
        · clear hw hT hpt hU4 hQ4 sd hS4 bf few hj c' c hql e4
          rintro i y σ2 H5 H6 hi ⟨w11, w12, w13, kvs, ps, qs, rfl, e5, hS5, sd, hU5, hQ5, hw, bf⟩ ⟨T', x', z, rfl, hT', rfl, h1, h2⟩
          cases h1
          obtain ⟨ch, hc, rfl⟩ : ∃ c, l.cps[i]? = some c ∧ V.str (sg c) = z := by
            unfold sgn at h2
            cases e : l.cps[i]? with
            | none => rw [e] at h2; cases h2
            | some c => rw [e] at h2; exact ⟨c, rfl, Option.some.inj h2⟩
          have hc' : (cs l)[i]? = some ch := by simpa using hc
          have hi' := (List.getElem?_eq_some_iff.mp hc').1
          have hql : ps.length = qs.length := hQ5.length
          have few := bf.few mA mB
          have hjl := (List.getElem?_eq_some_iff.mp hw).1
          have sn6 : Same H5 (upd H5 T' (.tup [.int (i : Nat), .str (sg ch)])) := sm_new hT'
          refine ⟨T', _, rfl, .of upd_same, rfl, _, _, rfl, _, _, rfl, rfl, ?_⟩
          have e6 := e5.trans sn6
          have hS6 := sn6 _ _ hS5
          have hU6 := sn6 _ _ hU5
          have hQ6 := hQ5.mono sn6
          generalize upd H5 T' (.tup [.int (i : Nat), .str (sg ch)]) = H6 at e6 hS6 hU6 hQ6
          -- pair = (step(..), step(..))
          refine ⟨_, rfl, _, rfl, _, rfl, p, l, A, EA, _, i, rfl, hMA.mono e6, mA, rA0, rA1, hi', _, rfl, _, rfl, _, rfl, q, l, B, EB, _, i, rfl, hMB.mono e6, mB, rB0, rB1, hi', by show 2 ≤ sizeLine; decide, fun pr hpr => ?_⟩
          have ek : prW A B (wd ++ [i]) = (stp A (prW A B wd).1 i, stp B (prW A B wd).2 i) := prW_snoc A B wd i
          have sn7 : Same H6 (upd H6 pr (.tup [.int (stp A (prW A B wd).1 i), .int (stp B (prW A B wd).2 i)])) := sm_new hpr
          have hp7 : upd H6 pr (.tup [.int (stp A (prW A B wd).1 i), .int (stp B (prW A B wd).2 i)]) pr = some (.tup ((kp (prW A B (wd ++ [i]))).map kV)) := by rw [upd_same, ek]; rfl
          have e7 := e6.trans sn7
          have hS7 := sn7 _ _ hS6
          have hU7 := sn7 _ _ hU6
          have hQ7 := hQ6.mono sn7
          refine ⟨_, rfl, _, rfl, S, _, rfl, DGet.t hS7 hp7, _, rfl, ite2 (fun c2 => ?_) (fun c2 => ?_)⟩
          · have hno : prW A B (wd ++ [i]) ∉ qs.map (prW A B) := by
              rw [sd.2] at c2
              intro z
              rw [decide_eq_true z] at c2; cases c2
            have bf2 := bf.new hw hi' hno
            have sd2 := sd.push (prW A B (wd ++ [i])) (.bl true)
            have hkl := sd.1
            rw [List.length_map] at hkl
            have hkz : kvs.length < sizeLine := Nat.lt_of_le_of_lt (by omega : _ ≤ 129 * 129) (by decide)
            have hthin := bf.thin j wd hw
            refine ⟨_, rfl, _, rfl, S, _, rfl, DPut.t hS7 hp7 hkz, ?_⟩
            have e8 := sm_mut (o := .dT (putK kvs (kp (prW A B (wd ++ [i]))) (.bl true))) e7 hS
            have hp8 : upd (upd H6 pr (.tup [.int (stp A (prW A B wd).1 i), .int (stp B (prW A B wd).2 i)])) S (.dT (putK kvs (kp (prW A B (wd ++ [i]))) (.bl true))) pr = some (.tup ((kp (prW A B (wd ++ [i]))).map kV)) := by
              rw [upd_ne (ne_of hp7 hS7 (by intro z; cases z))]; exact hp7
            have hU8 : upd (upd H6 pr (.tup [.int (stp A (prW A B wd).1 i), .int (stp B (prW A B wd).2 i)])) S (.dT (putK kvs (kp (prW A B (wd ++ [i]))) (.bl true))) U = some (.lst (ps.map V.ref)) := by rw [upd_ne nUS]; exact hU7
            have hQ8 := hQ7.upd (b := S) (o := .dT (putK kvs (kp (prW A B (wd ++ [i]))) (.bl true))) (fun ys z => by rw [hS7] at z; cases z)
            have hS8 : upd (upd H6 pr (.tup [.int (stp A (prW A B wd).1 i), .int (stp B (prW A B wd).2 i)])) S (.dT (putK kvs (kp (prW A B (wd ++ [i]))) (.bl true))) S = some (.dT (putK kvs (kp (prW A B (wd ++ [i]))) (.bl true))) := upd_same
            generalize upd (upd H6 pr (.tup [.int (stp A (prW A B wd).1 i), .int (stp B (prW A B wd).2 i)])) S (.dT (putK kvs (kp (prW A B (wd ++ [i]))) (.bl true))) = H8 at e8 hp8 hU8 hQ8 hS8
            -- queue.append((word + letter, pair[0], pair[1]))
            refine ⟨_, rfl, .inl ⟨rfl, _, .of hU8⟩, _, rfl, _, rfl, _, _, rfl, rfl, ?_, _, rfl, _, _, _, _, rfl, rfl, .t hp8, rfl, _, rfl, _, _, _, _, rfl, rfl, .t hp8, rfl, by show 3 ≤ sizeLine; decide, fun t9 ht9 => ?_⟩
            · rw [len_cs, len_cs, cs_wt, List.length_map]
              show _ + 1 ≤ sizeLine
              exact Nat.le_trans (by omega : _ ≤ 129 * 129 + 1) (by decide)
            · have hU9 := sm_new (o := .tup [.str (wt l wd ++ sg ch), kV (.inl (prW A B (wd ++ [i])).1), kV (.inl (prW A B (wd ++ [i])).2)]) ht9 _ _ hU8
              refine ⟨_, _, _, rfl, rfl, hU9, by rw [List.length_map, hql]; exact Nat.lt_of_le_of_lt (by omega : _ ≤ 129 * 129) (by decide), ?_⟩
              have sn9 := sm_new (o := .tup [.str (wt l wd ++ sg ch), kV (.inl (prW A B (wd ++ [i])).1), kV (.inl (prW A B (wd ++ [i])).2)]) ht9
              have hQ9 := hQ8.mono sn9
              refine ⟨_, _, _, putK kvs (kp (prW A B (wd ++ [i]))) (.bl true), ps ++ [t9], qs ++ [wd ++ [i]], rfl, sm_mut (e8.trans sn9) fU, ?_, ?_, ?_, ?_, get_app hw _, bf2⟩
              · rw [upd_ne (Ne.symm nUS)]; exact sn9 _ _ hS8
              · rw [List.map_append]; exact sd2
              · rw [upd_same, List.map_append]; rfl
              · refine All2.snoc (hQ9.upd (fun ys z => by rw [hU9] at z; cases z)) ?_
                rw [upd_ne (Ne.symm (ne_of_none hU8 ht9)), upd_same, wt_snoc hc']; rfl
          · have hyes : prW A B (wd ++ [i]) ∈ qs.map (prW A B) := by
              refine Classical.byContradiction fun z => c2 ?_
              rw [sd.2, decide_eq_false z]; rfl
            exact ⟨_, _, _, kvs, ps, qs, rfl, e7, hS7, sd, hU7, hQ7, hw, bf.old hw hyes⟩
        · rintro σ2 H5 ⟨w11, w12, w13, kvs, ps, qs, rfl, e5, hS5, sd, hU5, hQ5, hw, bf⟩
          have hsz : l.cps.size = (cs l).length := by simp
          rw [hsz] at bf
          exact ⟨(A.length + 1) * (B.length + 1) - (j + 1), by omega, _, _, _, _, _, _, _, _, kvs, ps, qs, j + 1, rfl, e5, hS5, sd, hU5, hQ5, bf.next hw hsame, rfl⟩
    · have hl : qs.length ≤ j := by
        have : ¬ (j : Int) < (ps.map V.ref).length := fun z => c (decide_eq_true z)
        rw [List.length_map, hql] at this
        omega
      exact k _ none e4 (bf.none hl)
abbrev N_parting_word : List Str := ["first", "second"]
theorem sc_parting_word : FnScope N_parting_word ["first", "second"] (defScope s_parting_word) := ⟨rfl, rfl, rfl, by decide +kernel, rfl, by decide +kernel, by decide +kernel⟩
def spPart (C : Addr) : Sp := fun vs H Q _ => ∃ (p q : Addr) (l : Str) (A : List (List Int)) (EA : List Int) (B : List (List Int)) (EB : List Int), vs = [.ref p, .ref q] ∧ MachAt C H p l A EA ∧ MachAt C H q l B EB ∧ LOk l ∧ MOk (cs l).length A EA ∧ MOk (cs l).length B EB ∧
  ∀ H' r, Same H H' → IsPart (cs l).length A EA B EB r → Q (optW l r) H'
theorem ok_parting_word (TQ : Tq P K mg) : Has P w K mg base CX0 3 (He.ga K "parting_word") ["first", "second"] (spPart (CM K)) := by
  have T := TQ.t
  have G_first_difference := ok_first_difference (w := w) (base := base) TQ
  refine has_of T.f_parting_word sc_parting_word (fun _ _ _ _ _ _ us hl => match us, hl with | [_, _], _ => rfl) (fun vs H Q E h => ?_) (fun cdv A0 outer s H vs Q E hr h => ?_)
  · obtain ⟨p, q, l, A, EA, B, EB, rfl, _⟩ := h
    rfl
  · obtain ⟨p, q, l, A, EA, B, EB, rfl, h⟩ := h
    refine ⟨_, (pss_one (ps_ret (pe_c G_first_difference (hr.mono (by decide)) T.g_first_difference (pa_cons (pv 0) (pa_cons (pv 1) (pa_cons (pe_bl) pa_nil)))))), ?_⟩
    exact ⟨_, rfl, _, rfl, p, q, l, A, EA, B, EB, rfl, h⟩
end
end Fy

set_option Elab.async false
set_option linter.all false
set_option maxRecDepth 100000
set_option maxHeartbeats 4000000
namespace Fy
open PySem PySem.Spec PyProof.Rows L2
/-! ### the teacher -/
def tf (m : Addr) (l : Str) (q : Addr) (g : Int) : List (Str × V) := [("machine", .ref m), ("letters", .str l), ("asked", .ref q), ("guessed", .int g)]
theorem tf_new (m : Addr) (l : Str) (q : Addr) (g : Int) : putF "guessed" (.int g) (putF "asked" (.ref q) (putF "letters" (.str l) (putF "machine" (.ref m) []))) = tf m l q g := by
  simp [putF, tf, sn "machine" "letters", sn "machine" "asked", sn "machine" "guessed", sn "letters" "asked", sn "letters" "guessed", sn "asked" "guessed"]
theorem tf_asked (m : Addr) (l : Str) (q q' : Addr) (g : Int) : putF "asked" (.ref q') (tf m l q g) = tf m l q' g := by
  simp [putF, tf, sn "machine" "asked", sn "letters" "asked"]
theorem tf_guessed (m : Addr) (l : Str) (q : Addr) (g g' : Int) : putF "guessed" (.int g') (tf m l q g) = tf m l q g' := by
  simp [putF, tf, sn "machine" "guessed", sn "letters" "guessed", sn "asked" "guessed"]
theorem tf_l (m : Addr) (l : Str) (q : Addr) (g : Int) (n : Str) : (tf m l q g).lookup n = if n = "guessed" then some (.int g) else if n = "asked" then some (.ref q) else if n = "letters" then some (.str l) else if n = "machine" then some (.ref m) else none := by
  rw [← tf_new, lookup_putF, lookup_putF, lookup_putF, lookup_putF]; rfl
theorem tf_machine (m : Addr) (l : Str) (q : Addr) (g : Int) : (tf m l q g).lookup ("machine" : Str) = some (.ref m) := by
  rw [tf_l, if_neg (sn "machine" "guessed"), if_neg (sn "machine" "asked"), if_neg (sn "machine" "letters"), if_pos rfl]
theorem tf_letters (m : Addr) (l : Str) (q : Addr) (g : Int) : (tf m l q g).lookup ("letters" : Str) = some (.str l) := by
  rw [tf_l, if_neg (sn "letters" "guessed"), if_neg (sn "letters" "asked"), if_pos rfl]
theorem tf_ask (m : Addr) (l : Str) (q : Addr) (g : Int) : (tf m l q g).lookup ("asked" : Str) = some (.ref q) := by
  rw [tf_l, if_neg (sn "asked" "guessed"), if_pos rfl]
theorem tf_gs (m : Addr) (l : Str) (q : Addr) (g : Int) : (tf m l q g).lookup ("guessed" : Str) = some (.int g) := by
  rw [tf_l, if_pos rfl]
theorem tf_no (m : Addr) (l : Str) (q : Addr) (g : Int) {n : Str} (h1 : ¬ n = "guessed") (h2 : ¬ n = "asked") (h3 : ¬ n = "letters") (h4 : ¬ n = "machine") : (tf m l q g).lookup n = none := by
  rw [tf_l, if_neg h1, if_neg h2, if_neg h3, if_neg h4]
abbrev CT (K : PySem.W.Frag) : Addr := He.ga K "Teacher"
def TeachAt (K : PySem.W.Frag) (H : Hp) (t : Addr) (l : Str) (A : List (List Int)) (EA : List Int) (as : List Str) (g : Int) : Prop := ∃ dx m q, H t = some (.ins (CT K) dx (tf m l q g)) ∧ MachAt (CM K) H m l A EA ∧ H q = some (.tup (as.map V.str))
section
variable {P : Program} {w : World} {K : PySem.W.Frag} {mg : Str → Option Value} {base : Heap}
theorem TeachAt.mono {H H' : Hp} {t : Addr} {l : Str} {A : List (List Int)} {EA : List Int} {as : List Str} {g : Int} (h : TeachAt K H t l A EA as g) (e : Same H H') : TeachAt K H' t l A EA as g :=
  let ⟨dx, m, q, h1, h2, h3⟩ := h; ⟨dx, m, q, e _ _ h1, h2.mono e, e _ _ h3⟩
theorem MachAt.keep {C : Addr} {H H' : Hp} {p : Addr} {l : Str} {rows : List (List Int)} {ends : List Int} {t : Addr} {C' dx' : Addr} {fs' : List (Str × V)} (h : MachAt C H p l rows ends) (ht : H t = some (.ins C' dx' fs')) (n : C ≠ C' ∨ p ≠ t) (e : But t H H') : MachAt C H' p l rows ends := by
  obtain ⟨dx, a, b, h1, ⟨ps, h2, h3⟩, h4⟩ := h
  have np : p ≠ t := by
    rcases n with n | n
    · rintro rfl; rw [h1] at ht; cases ht; exact n rfl
    · exact n
  have nt : ∀ {x : Addr} {ys : List V}, H x = some (.tup ys) → x ≠ t := fun hx => by rintro rfl; rw [hx] at ht; cases ht
  exact ⟨dx, a, b, e _ _ np h1, ⟨ps, e _ _ (nt h2) h2, All2.imp (fun _ _ z => e _ _ (nt z) z) h3⟩, e _ _ (nt h4) h4⟩
abbrev N_Teacher_init : List Str := ["self", "machine"]
theorem sc_Teacher_init : FnScope N_Teacher_init ["self", "machine"] (defScope s_Teacher_init) := ⟨rfl, rfl, rfl, by decide +kernel, rfl, by decide +kernel, by decide +kernel⟩
def spTInit (K : PySem.W.Frag) : Sp := fun vs H Q _ => ∃ (H0 : Hp) (x dx p : Addr) (l : Str) (rows : List (List Int)) (ends : List Int), vs = [.ref x, .ref p] ∧ Same H0 H ∧ H0 x = none ∧ H x = some (.ins (CT K) dx []) ∧
  MachAt (CM K) H0 p l rows ends ∧ LOk l ∧ MOk (cs l).length rows ends ∧ ∀ H' A EA, Same H0 H' → TeachAt K H' x l A EA [] 0 → MOk (cs l).length A EA → (∀ ps : List Nat, (∀ p ∈ ps, p < (cs l).length) → acc A EA ps = acc rows ends ps) → Q .non H'
theorem ok_Teacher_init (T : Tx K mg) : Has P w K mg base CX0 7 (He.ma K (CT K) "__init__") ["self", "machine"] (spTInit K) := by
  have G_smallest := ok_smallest (P := P) (w := w) (base := base) T
  refine has_of T.f_Teacher_init sc_Teacher_init (fun _ _ _ _ _ _ us hl => match us, hl with | [_, _], _ => rfl) (fun vs H Q E h => ?_) (fun cdv A outer s H vs Q E hr h => ?_)
  · obtain ⟨H0, x, dx, p, l, rows, ends, rfl, _⟩ := h
    rfl
  · obtain ⟨H0, x, dx, p, l, rows, ends, rfl, e0, nx, hx, hM, lo, mo, k⟩ := h
    refine ⟨_, (pss_cons (ps_fld (pv 0) (pe_c G_smallest (hr.mono (by decide)) T.g_smallest (pa_cons (pv 1) pa_nil)) rfl)
    (pss_cons (ps_fld (pv 0) (pe_fld (pv 1) rfl) rfl)
    (pss_cons (ps_fld (pv 0) (pe_tup pa_nil) rfl)
    (pss_one (ps_fld (pv 0) (pe_int) rfl))))), ?_⟩
    refine ⟨_, rfl, p, l, rows, ends, rfl, hM.mono e0, lo, mo, fun H1 m A EA e1 hm mA hacc => ?_⟩
    have hx1 := e1 _ _ hx
    refine ⟨_, rfl, x, _, dx, _, rfl, hx1, T.c_Teacher, T.n_Teacher_machine, (by show 0 < 1000; decide), ?_⟩
    have e2 : Same H0 (upd H1 x (.ins (CT K) dx (putF "machine" (.ref m) []))) := sm_mut (e0.trans e1) nx
    have hx2 : upd H1 x (.ins (CT K) dx (putF "machine" (.ref m) [])) x = some (.ins (CT K) dx (putF "machine" (.ref m) [])) := upd_same
    have bt : But x H1 (upd H1 x (.ins (CT K) dx (putF "machine" (.ref m) []))) := But.upd _ _ _
    generalize upd H1 x (.ins (CT K) dx (putF "machine" (.ref m) [])) = H2 at e2 hx2 bt
    obtain ⟨dxp, ap, ep, hp, _, _⟩ := id hM
    refine ⟨_, rfl, p, _, dxp, _, _, rfl, e2 _ _ hp, T.c_Machine, T.n_Machine_letters, mf_letters _ _ _, _, rfl, x, _, dx, _, rfl, hx2, T.c_Teacher, T.n_Teacher_letters, ?_, ?_⟩
    · exact Nat.lt_of_le_of_lt (length_putF _ _ _) (by show 1 < 1000; decide)
    have e3 := sm_mut (o := .ins (CT K) dx (putF "letters" (.str l) (putF "machine" (.ref m) []))) e2 nx
    have hx3 : upd H2 x (.ins (CT K) dx (putF "letters" (.str l) (putF "machine" (.ref m) []))) x = some (.ins (CT K) dx (putF "letters" (.str l) (putF "machine" (.ref m) []))) := upd_same
    have bt3 := bt.trans (But.upd x H2 (.ins (CT K) dx (putF "letters" (.str l) (putF "machine" (.ref m) []))))
    generalize upd H2 x (.ins (CT K) dx (putF "letters" (.str l) (putF "machine" (.ref m) []))) = H3 at e3 hx3 bt3
    refine ⟨Nat.zero_le _, fun q hq => ⟨_, rfl, x, _, dx, _, rfl, sm_new hq _ _ hx3, T.c_Teacher, T.n_Teacher_asked, ?_, ?_⟩⟩
    · exact Nat.lt_of_le_of_lt (Nat.le_trans (length_putF _ _ _) (Nat.add_le_add_right (length_putF _ _ _) 1)) (by show 2 < 1000; decide)
    have nq : q ≠ x := Ne.symm (ne_of_none hx3 hq)
    have e4 := sm_mut (o := .ins (CT K) dx (putF "asked" (.ref q) (putF "letters" (.str l) (putF "machine" (.ref m) [])))) (sm_laid (o := .tup []) e3 hq) nx
    have bt4 := bt3.trans ((But.of_same (st := x) (sm_new (o := .tup []) hq)).trans (But.upd x _ (.ins (CT K) dx (putF "asked" (.ref q) (putF "letters" (.str l) (putF "machine" (.ref m) []))))))
    have hq4 : upd (upd H3 q (.tup [])) x (.ins (CT K) dx (putF "asked" (.ref q) (putF "letters" (.str l) (putF "machine" (.ref m) [])))) q = some (.tup []) := by rw [upd_ne nq]; exact upd_same
    have hx4 : upd (upd H3 q (.tup [])) x (.ins (CT K) dx (putF "asked" (.ref q) (putF "letters" (.str l) (putF "machine" (.ref m) [])))) x = some (.ins (CT K) dx (putF "asked" (.ref q) (putF "letters" (.str l) (putF "machine" (.ref m) [])))) := upd_same
    generalize upd (upd H3 q (.tup [])) x (.ins (CT K) dx (putF "asked" (.ref q) (putF "letters" (.str l) (putF "machine" (.ref m) [])))) = H4 at e4 hx4 bt4 hq4
    refine ⟨_, rfl, x, _, dx, _, rfl, hx4, T.c_Teacher, T.n_Teacher_guessed, ?_, ?_⟩
    · exact Nat.lt_of_le_of_lt (Nat.le_trans (length_putF _ _ _) (Nat.add_le_add_right (Nat.le_trans (length_putF _ _ _) (Nat.add_le_add_right (length_putF _ _ _) 1)) 1)) (by show 3 < 1000; decide)
    rw [tf_new]
    have bt5 := bt4.trans (But.upd x H4 (.ins (CT K) dx (tf m l q 0)))
    have nm : m ≠ x := by
      obtain ⟨d2, _, _, h2, _⟩ := id hm
      rintro rfl
      rw [hx1] at h2
      have h3 := Option.some.inj h2
      injection h3 with z1 z2 z3
      unfold mf at z3
      have := congrArg (fun f : List (Str × V) => f.lookup ("ends" : Str)) z3
      rw [show (putF "ends" (V.ref _) (putF "arrows" (V.ref _) (putF "letters" (V.str l) []))).lookup ("ends" : Str) = some _ from by rw [lookup_putF, if_pos rfl]] at this
      cases this
    exact k _ A EA (sm_mut e4 nx) ⟨dx, m, q, upd_same, hm.keep hx1 (.inr nm) bt5, by rw [upd_ne nq]; exact hq4⟩ mA hacc
abbrev N_Teacher_holds : List Str := ["self", "word", "answer"]
theorem sc_Teacher_holds : FnScope N_Teacher_holds ["self", "word"] (defScope s_Teacher_holds) := ⟨rfl, rfl, rfl, by decide +kernel, rfl, by decide +kernel, by decide +kernel⟩
def spHolds (K : PySem.W.Frag) : Sp := fun vs H Q E => ∃ (t : Addr) (l x : Str) (A : List (List Int)) (EA : List Int) (as : List Str) (g : Int), vs = [.ref t, .str x] ∧ TeachAt K H t l A EA as g ∧ LOk l ∧ MOk (cs l).length A EA ∧ as.length ≤ 1000 ∧
  (WOk l x → ∀ H', But t H H' → TeachAt K H' t l A EA (as ++ [x]) g → Q (.bl (acc A EA (ix l x))) H') ∧ RefW K l x H E
theorem ok_Teacher_holds (TQ : Tq P K mg) : Has P w K mg base (L2.CX P w) 6 (He.ma K (CT K) "holds") ["self", "word"] (spHolds K) := by
  have T := TQ.t
  have G_Machine_contains := ok_Machine_contains (w := w) (base := base) TQ
  refine has_ofX T.f_Teacher_holds sc_Teacher_holds (fun _ _ _ _ _ _ us hl => match us, hl with | [_, _], _ => rfl) (fun vs H Q E h => ?_) (fun cdv A0 outer s H vs Q E hr h => ?_)
  · obtain ⟨t, l, x, A, EA, as, g, rfl, _⟩ := h
    rfl
  · obtain ⟨t, l, x, A, EA, as, g, rfl, ⟨dx, m, q, ht, hm, hq⟩, lo, mo, few, k, kx⟩ := h
    refine ⟨_, (pss_cons (ps_set (i := 2) sc_Teacher_holds.nd rfl (Or.inl rfl) (pe_cmpR (op_inH T.k_Machine_contains G_Machine_contains (hr.mono (by decide)) pX) (pv 1) (pe_fld (pv 0) rfl) (by rfl)))
    (pss_cons (ps_fld (pv 0) (pe_op op_catA (pe_fld (pv 0) rfl) (pe_tup (pa_cons (pv 1) pa_nil))) rfl)
    (pss_one (ps_ret (pv 2))))), ?_⟩
    obtain ⟨dm, am, em, hmi, _⟩ := id hm
    refine ⟨_, rfl, _, rfl, t, _, dx, _, _, rfl, ht, T.c_Teacher, T.n_Teacher_machine, tf_machine _ _ _ _, m, _, _, rfl, hmi, m, l, x, A, EA, rfl, hm, lo, mo, fun wo H1 e1 => ⟨_, rfl, ?_⟩, kx⟩
    rw [if_neg (by decide)]
    refine ⟨_, rfl, t, _, dx, _, _, rfl, e1 _ _ ht, T.c_Teacher, T.n_Teacher_asked, tf_ask _ _ _ _, _, rfl, by show 1 ≤ sizeLine; decide, fun p hp => ?_⟩
    have e2 := e1.trans (sm_new (o := .tup [.str x]) hp)
    have hq2 := e2 _ _ hq
    have hp2 : upd H1 p (.tup [.str x]) p = some (.tup [.str x]) := upd_same
    generalize upd H1 p (.tup [.str x]) = H2 at e2 hq2 hp2
    have fin : ∀ (q' : Addr) H3, Same H2 H3 → H3 q' = some (.tup ((as ++ [x]).map V.str)) → Q (.bl (acc A EA (ix l x))) (upd H3 t (.ins (CT K) dx (putF "asked" (.ref q') (tf m l q g)))) := fun q' H3 e3 h3 => by
      rw [tf_asked]
      have ht3 := e3 _ _ (e2 _ _ ht)
      have hm3 := hm.mono (e2.trans e3)
      refine k wo _ ((But.of_same (e2.trans e3)).trans (But.upd _ _ _)) ⟨dx, m, q', upd_same, ?_, ?_⟩
      · refine hm3.keep ht3 (.inr ?_) (But.upd _ _ _)
        rintro rfl
        rw [hmi] at ht
        have h4 := Option.some.inj ht
        injection h4 with z1 z2 z3
        have := congrArg (fun f : List (Str × V) => f.lookup ("guessed" : Str)) z3
        rw [show (tf m l q g).lookup ("guessed" : Str) = some _ from tf_gs _ _ _ _, mf_no _ _ _ (sn "guessed" "letters") (sn "guessed" "arrows") (sn "guessed" "ends")] at this
        cases this
      · have : q' ≠ t := by rintro rfl; rw [h3] at ht3; cases ht3
        rw [upd_ne this]; exact h3
    refine ⟨_, _, _, _, rfl, rfl, .of hq2, .of hp2, ?_, fun z => ?_, fun _ z => (by cases z), fun z _ p2 hp2' => ?_⟩
    · rw [List.length_map]; exact Nat.le_trans (Nat.add_le_add_right few 1) (by decide)
    · have : as = [] := by
        cases as with
        | nil => rfl
        | cons a b => cases z
      subst this
      exact ⟨_, rfl, t, _, dx, _, rfl, e2 _ _ ht, T.c_Teacher, T.n_Teacher_asked, by show 4 < 1000; decide, _, rfl, fin p H2 (Same.refl _) hp2⟩
    · refine ⟨_, rfl, t, _, dx, _, rfl, sm_new hp2' _ _ (e2 _ _ ht), T.c_Teacher, T.n_Teacher_asked, by show 4 < 1000; decide, _, rfl, fin p2 _ (sm_new hp2') ?_⟩
      rw [upd_same, List.map_append]; rfl
abbrev N_Teacher_refute : List Str := ["self", "machine"]
theorem sc_Teacher_refute : FnScope N_Teacher_refute ["self", "machine"] (defScope s_Teacher_refute) := ⟨rfl, rfl, rfl, by decide +kernel, rfl, by decide +kernel, by decide +kernel⟩
def spRefute (K : PySem.W.Frag) : Sp := fun vs H Q E => ∃ (t p : Addr) (l l' : Str) (A : List (List Int)) (EA : List Int) (B : List (List Int)) (EB : List Int) (as : List Str) (g : Int), vs = [.ref t, .ref p] ∧ TeachAt K H t l A EA as g ∧ MachAt (CM K) H p l' B EB ∧ LOk l ∧ MOk (cs l).length A EA ∧ MOk (cs l').length B EB ∧
  (l = l' → ∀ H' r, But t H H' → TeachAt K H' t l A EA as (g + 1) → IsPart (cs l).length A EA B EB r → Q (optW l r) H') ∧ (l ≠ l' → E (.ref (He.ga K "BadLetters")) none H)
theorem ok_Teacher_refute (TQ : Tq P K mg) : Has P w K mg base (L2.CX P w) 4 (He.ma K (CT K) "refute") ["self", "machine"] (spRefute K) := by
  have T := TQ.t
  have G_check_same_letters := ok_check_same_letters (w := w) (base := base) TQ
  have G_parting_word := ok_parting_word (w := w) (base := base) TQ
  refine has_ofX T.f_Teacher_refute sc_Teacher_refute (fun _ _ _ _ _ _ us hl => match us, hl with | [_, _], _ => rfl) (fun vs H Q E h => ?_) (fun cdv A0 outer s H vs Q E hr h => ?_)
  · obtain ⟨t, p, l, l', A, EA, B, EB, as, g, rfl, _⟩ := h
    rfl
  · obtain ⟨t, p, l, l', A, EA, B, EB, as, g, rfl, ⟨dx, m, q, ht, hm, hq⟩, hMB, lo, mA, mB, k, kx⟩ := h
    refine ⟨_, (pss_cons (ps_expr (pe_cX G_check_same_letters (hr.mono (by decide)) T.g_check_same_letters pX (pa_cons (pe_fld (pv 0) rfl) (pa_cons (pv 1) pa_nil))))
    (pss_cons (ps_fldaug (pv 0) (pe_int) in_add)
    (pss_one (ps_ret (pe_c G_parting_word (hr.mono (by decide)) T.g_parting_word (pa_cons (pe_fld (pv 0) rfl) (pa_cons (pv 1) pa_nil))))))), ?_⟩
    obtain ⟨dm, am, em, hmi, _⟩ := id hm
    obtain ⟨dp, ap, ep, hpi, _⟩ := id hMB
    have ntm : ∀ {z : Addr} {d2 a2 e2 : Addr} {l2 : Str}, H z = some (.ins (CM K) d2 (mf l2 a2 e2)) → z ≠ t := fun {z d2 a2 e2 l2} hz => by
      rintro rfl
      rw [hz] at ht
      have h4 := Option.some.inj ht
      injection h4 with z1 z2 z3
      have := congrArg (fun f : List (Str × V) => f.lookup ("guessed" : Str)) z3
      rw [show (tf m l q g).lookup ("guessed" : Str) = some _ from tf_gs _ _ _ _, mf_no _ _ _ (sn "guessed" "letters") (sn "guessed" "arrows") (sn "guessed" "ends")] at this
      cases this
    refine ⟨_, rfl, t, _, dx, _, _, rfl, ht, T.c_Teacher, T.n_Teacher_machine, tf_machine _ _ _ _, _, rfl, m, p, l, l', A, EA, B, EB, rfl, hm, hMB, fun e => ?_, kx⟩
    subst e
    -- self.guessed += 1
    refine ⟨_, rfl, t, _, dx, _, _, rfl, ht, T.c_Teacher, T.n_Teacher_guessed, tf_gs _ _ _ _, _, _, rfl, rfl, dx, _, ht, by show 4 < 1000; decide, ?_⟩
    rw [tf_guessed]
    have bt : But t H (upd H t (.ins (CT K) dx (tf m l q (g + 1)))) := But.upd _ _ _
    have ht2 : upd H t (.ins (CT K) dx (tf m l q (g + 1))) t = some (.ins (CT K) dx (tf m l q (g + 1))) := upd_same
    have hm2 := hm.keep ht (.inr (ntm hmi)) bt
    have hMB2 := hMB.keep ht (.inr (ntm hpi)) bt
    have hq2 : upd H t (.ins (CT K) dx (tf m l q (g + 1))) q = some (.tup (as.map V.str)) := bt _ _ (by rintro rfl; rw [hq] at ht; cases ht) hq
    generalize upd H t (.ins (CT K) dx (tf m l q (g + 1))) = H2 at bt ht2 hm2 hMB2 hq2
    refine ⟨_, rfl, t, _, dx, _, _, rfl, ht2, T.c_Teacher, T.n_Teacher_machine, tf_machine _ _ _ _, _, rfl, m, p, l, A, EA, B, EB, rfl, hm2, hMB2, lo, mA, mB, fun H3 r e3 hr => ?_⟩
    exact k rfl H3 r (bt.trans (But.of_same e3)) ⟨dx, m, q, e3 _ _ ht2, hm2.mono e3, e3 _ _ hq2⟩ hr
end
end Fy

set_option Elab.async false
set_option linter.all false
set_option maxRecDepth 100000
set_option maxHeartbeats 4000000
namespace Fy
open PySem PySem.Spec PyProof.Rows L2 L2H
section
variable {P : Program} {w : World} {K : PySem.W.Frag} {mg : Str → Option Value} {base : Heap}
theorem pss_nev {X : Cx} {body : List Stmt} : PSs X body (fun _ _ _ => False) := ⟨fun _ _ _ _ _ _ h => h.elim⟩
abbrev N_Lrefusal : List Str := ["e", "told"]
theorem sc_Lrefusal : FnScope N_Lrefusal ["e"] (defScope s_Lrefusal) := ⟨rfl, rfl, rfl, by decide +kernel, rfl, by decide +kernel, by decide +kernel⟩
/-- what the law tells of an exception -/
def spRefusal (K : PySem.W.Frag) : Addr × Obj → List V → Hp → VK → Prop := fun p vs H Q => vs = [.ref p.1] ∧ (∃ vs, p.2.data = .fields vs) ∧
  ((Zc (.ref (He.ga K "BadLetters")) none p.2 ∧ ∀ H' r, Same H H' → H' r = some (.tup [.str "letters"]) → Q (.ref r) H') ∨
   ∃ d x i, Zc (.ref (CBW K)) (some d) p.2 ∧ H d = some (xbw x i) ∧ ∀ H' r, Same H H' → H' r = some (.tup [.str "word", .str x, .int (i : Nat)]) → Q (.ref r) H')
theorem ok_refusal (TQ : Tq P K mg) : HasE P w K mg base 1 (He.ga K "_law_refusal") ["e"] (spRefusal K) := by
  have T := TQ.t
  refine hasE_of T.f_Lrefusal sc_Lrefusal (fun _ _ _ _ _ _ us hl => match us, hl with | [_], _ => rfl) (fun p vs H Q h => ?_) (fun cdv A outer s H vs Q p hr h => ?_)
  · obtain ⟨rfl, _⟩ := h
    rfl
  · obtain ⟨rfl, hf, h⟩ := h
    have hu64 : (A.deeper (envOfC "_law_refusal" (defScope s_Lrefusal) s.heap.objs.size (He.ga K "_law_refusal") cdv)).units + 64 < cLine := by
      have := hr.un
      exact Nat.lt_of_le_of_lt (by omega) this
    have four : ∀ (H1 : Hp) (r : Addr) (b1 b2 b3 b4 : Bool), H1 r = some (.tup [.bl b1, .bl b2, .bl b3, .bl b4]) → Dp K H1 (.ref r) (.tuple [.bool b1, .bool b2, .bool b3, .bool b4]) := fun H1 r b1 b2 b3 b4 e => .tup (.of e) (.cons (.bl _) (.cons (.bl _) (.cons (.bl _) (.cons (.bl _) .nil))))
    rcases h with ⟨hz, k⟩ | ⟨d, x, i, hz, hd, k⟩
    · have cx := call_isX (X := cxH CX0 P w K mg base N_Lrefusal "_law_refusal" (defScope s_Lrefusal) (He.ga K "_law_refusal") cdv A outer s H E0 p) (a := p.1) (oe := p.2) TQ.q_BadLetters (List.mem_singleton.mpr rfl) hz hf
      have xd : ∀ H' : Hp, XdAt none H' := fun H' dd z => by cases z
      refine ⟨_, (pss_cons (ps_set (i := 1) sc_Lrefusal.nd rfl (Or.inl rfl) (pe_tup (pa_cons (pe_callB cx (by rfl) T.z_isinstance (by decide +kernel) (pa_cons (pv 0) (pa_cons (pe_glob (v := .ref (He.ga K "BadLetters")) rfl T.g_BadLetters rfl) pa_nil))) (pa_cons (pe_callB cx (by rfl) T.z_isinstance (by decide +kernel) (pa_cons (pv 0) (pa_cons (pe_glob (v := .ref (He.ga K "BadWord")) rfl T.g_BadWord rfl) pa_nil))) (pa_cons (pe_callB cx (by rfl) T.z_isinstance (by decide +kernel) (pa_cons (pv 0) (pa_cons (pe_glob (v := .ref (He.ga K "TooMany")) rfl T.g_TooMany rfl) pa_nil))) (pa_cons (pe_callB cx (by rfl) T.z_isinstance (by decide +kernel) (pa_cons (pv 0) (pa_cons (pe_glob (v := .ref (He.ga K "BadKind")) rfl T.g_BadKind rfl) pa_nil))) (pa_nil)))))))
        (pss_cons (ps_if (pt_cmpR (op_eqD hu64) (pv 1) (pe_tup (pa_cons (pe_bl) (pa_cons (pe_bl) (pa_cons (pe_bl) (pa_cons (pe_bl) pa_nil))))) (nomark _)) (pss_one (ps_ret (pe_tup (pa_cons (pe_str) pa_nil)))) pss_nil) pss_nev)), ?_⟩
      refine ⟨_, rfl, _, _, _, rfl, fun u r => r, TQ.i_BadLetters_BadLetters, xd _, _, rfl, _, _, _, rfl, fun u r => r, TQ.i_BadLetters_BadWord, xd _, _, rfl, _, _, _, rfl, fun u r => r, TQ.i_BadLetters_TooMany, xd _, _, rfl, _, _, _, rfl, fun u r => r, TQ.i_BadLetters_BadKind, xd _, by show 4 ≤ sizeLine; decide, fun r hr => ?_⟩
      refine ⟨_, rfl, by show 4 ≤ sizeLine; decide, fun r2 hr2 => ⟨_, _, four _ r true false false false (by rw [upd_ne (ne_of_none upd_same hr2)]; exact upd_same), four _ r2 true false false false upd_same, rfl, rfl, _, rfl, ite2 (fun _ => ?_) (fun z => absurd rfl z)⟩⟩
      exact ⟨by show 1 ≤ sizeLine; decide, fun r3 hr3 => k _ r3 ((sm_new hr).trans ((sm_new hr2).trans (sm_new hr3))) upd_same⟩
    · have cx := call_isX (X := cxH CX0 P w K mg base N_Lrefusal "_law_refusal" (defScope s_Lrefusal) (He.ga K "_law_refusal") cdv A outer s H E0 p) (a := p.1) (oe := p.2) TQ.q_BadWord (List.mem_singleton.mpr rfl) hz hf
      have xd : ∀ H' : Hp, Same H H' → XdAt (some d) H' := fun H' e dd z => by cases z; exact ⟨_, e _ _ hd⟩
      have xf := exgB_xf TQ.q_BadWord
      refine ⟨_, (pss_cons (ps_set (i := 1) sc_Lrefusal.nd rfl (Or.inl rfl) (pe_tup (pa_cons (pe_callB cx (by rfl) T.z_isinstance (by decide +kernel) (pa_cons (pv 0) (pa_cons (pe_glob (v := .ref (He.ga K "BadLetters")) rfl T.g_BadLetters rfl) pa_nil))) (pa_cons (pe_callB cx (by rfl) T.z_isinstance (by decide +kernel) (pa_cons (pv 0) (pa_cons (pe_glob (v := .ref (He.ga K "BadWord")) rfl T.g_BadWord rfl) pa_nil))) (pa_cons (pe_callB cx (by rfl) T.z_isinstance (by decide +kernel) (pa_cons (pv 0) (pa_cons (pe_glob (v := .ref (He.ga K "TooMany")) rfl T.g_TooMany rfl) pa_nil))) (pa_cons (pe_callB cx (by rfl) T.z_isinstance (by decide +kernel) (pa_cons (pv 0) (pa_cons (pe_glob (v := .ref (He.ga K "BadKind")) rfl T.g_BadKind rfl) pa_nil))) (pa_nil)))))))
        (pss_cons (ps_if (pt_cmpR (op_eqD hu64) (pv 1) (pe_tup (pa_cons (pe_bl) (pa_cons (pe_bl) (pa_cons (pe_bl) (pa_cons (pe_bl) pa_nil))))) (nomark _)) (pss_one ps_never) pss_nil)
        (pss_cons (ps_if (pt_cmpR (op_eqD hu64) (pv 1) (pe_tup (pa_cons (pe_bl) (pa_cons (pe_bl) (pa_cons (pe_bl) (pa_cons (pe_bl) pa_nil))))) (nomark _)) (pss_one (ps_ret (pe_tup (pa_cons (pe_str) (pa_cons (pe_xfX (a := p.1) (oe := p.2) (C := CBW K) xf TQ.n_BadWord_word (List.mem_singleton.mpr rfl) hz hf (pv 0)) (pa_cons (pe_xfX (a := p.1) (oe := p.2) (C := CBW K) xf TQ.n_BadWord_place (List.mem_singleton.mpr rfl) hz hf (pv 0)) pa_nil)))))) pss_nil) pss_nev))), ?_⟩
      refine ⟨_, rfl, _, _, _, rfl, fun u r => r, TQ.i_BadWord_BadLetters, xd _ (Same.refl _), _, rfl, _, _, _, rfl, fun u r => r, TQ.i_BadWord_BadWord, xd _ (Same.refl _), _, rfl, _, _, _, rfl, fun u r => r, TQ.i_BadWord_TooMany, xd _ (Same.refl _), _, rfl, _, _, _, rfl, fun u r => r, TQ.i_BadWord_BadKind, xd _ (Same.refl _), by show 4 ≤ sizeLine; decide, fun r hr => ?_⟩
      refine ⟨_, rfl, by show 4 ≤ sizeLine; decide, fun r2 hr2 => ⟨_, _, four _ r false true false false (by rw [upd_ne (ne_of_none upd_same hr2)]; exact upd_same), four _ r2 true false false false upd_same, rfl, rfl, _, rfl, ite2 (fun z => by cases z) (fun _ => ?_)⟩⟩
      have e2 := (sm_new (o := .tup [.bl false, .bl true, .bl false, .bl false]) hr).trans (sm_new (o := .tup [.bl true, .bl false, .bl false, .bl false]) hr2)
      have hr' := sm_new (o := .tup [.bl true, .bl false, .bl false, .bl false]) hr2 _ _ (upd_same (H := H) (a := r) (o := .tup [.bl false, .bl true, .bl false, .bl false]))
      refine ⟨_, rfl, by show 4 ≤ sizeLine; decide, fun r3 hr3 => ⟨_, _, four _ r false true false false (sm_new hr3 _ _ hr'), four _ r3 false true false false upd_same, rfl, rfl, _, rfl, ite2 (fun _ => ?_) (fun z => absurd rfl z)⟩⟩
      have e3 := e2.trans (sm_new (o := .tup [.bl false, .bl true, .bl false, .bl false]) hr3)
      exact ⟨_, rfl, rfl, d, _, _, rfl, e3 _ _ hd, (by rfl), _, rfl, rfl, d, _, _, rfl, e3 _ _ hd, (by rfl), by show 3 ≤ sizeLine; decide, fun r4 hr4 => k _ r4 (e3.trans (sm_new hr4)) upd_same⟩
end
end Fy

set_option Elab.async false
set_option linter.all false
set_option maxRecDepth 100000
set_option maxHeartbeats 4000000
namespace Fy
open PySem PySem.Spec PyProof.Rows L2 L2H
section
variable {P : Program} {w : World} {K : PySem.W.Frag} {mg : Str → Option Value} {base : Heap}
/-- the refusal, by the exception's class and dict -/
def spRf (K : PySem.W.Frag) (a : Addr) (cls : Value) (d : Option Addr) : List V → Hp → VK → Prop := fun vs H Q => vs = [.ref a] ∧
  ((cls = .ref (He.ga K "BadLetters") ∧ d = none ∧ ∀ H' r, Same H H' → H' r = some (.tup [.str "letters"]) → Q (.ref r) H') ∨
   ∃ dd x i, cls = .ref (CBW K) ∧ d = some dd ∧ H dd = some (xbw x i) ∧ ∀ H' r, Same H H' → H' r = some (.tup [.str "word", .str x, .int (i : Nat)]) → Q (.ref r) H')
theorem spRf_of {K : PySem.W.Frag} {a : Addr} {oe : Obj} {cls : Value} {d : Option Addr} {vs : List V} {H : Hp} {Q : VK} (hz : Zc cls d oe) (hf : ∃ vs, oe.data = .fields vs) (h : spRf K a cls d vs H Q) : spRefusal K (a, oe) vs H Q := by
  obtain ⟨e, h⟩ := h
  refine ⟨e, hf, ?_⟩
  rcases h with ⟨rfl, rfl, k⟩ | ⟨dd, x, i, rfl, rfl, hd, k⟩
  · exact .inl ⟨hz, k⟩
  · exact .inr ⟨dd, x, i, hz, hd, k⟩
def tSuite (K : PySem.W.Frag) (a : Addr) (cls : Value) (d : Option Addr) : TS := tRet (fun σ H Q => tCons (tVar 2) tNil σ H fun vs H1 => spRf K a cls d vs H1 Q)
theorem pe_imp {X : Cx} {e : Expr} {t t' : TE} (h : PE X e t) (f : ∀ σ H Q, t' σ H Q → t σ H Q) : PE X e t' := ⟨fun pins s σ H Q I q => h.run pins s σ H Q I (f σ H Q q)⟩
abbrev N_Lholds : List Str := ["teacher", "word", "e"]
theorem sc_Lholds : FnScope N_Lholds ["teacher", "word"] (defScope s_Lholds) := ⟨rfl, rfl, rfl, by decide +kernel, rfl, by decide +kernel, by decide +kernel⟩
def spLholds (K : PySem.W.Frag) : Sp := fun vs H Q _ => ∃ (t : Addr) (l x : Str) (A : List (List Int)) (EA : List Int) (as : List Str) (g : Int), vs = [.ref t, .str x] ∧ TeachAt K H t l A EA as g ∧ LOk l ∧ MOk (cs l).length A EA ∧ as.length ≤ 1000 ∧
  (WOk l x → ∀ H', But t H H' → TeachAt K H' t l A EA (as ++ [x]) g → Q (.bl (acc A EA (ix l x))) H') ∧ (∀ i, BadAt l x i → ∀ H' r, Same H H' → H' r = some (.tup [.str "word", .str x, .int (i : Nat)]) → Q (.ref r) H')
theorem ok_Lholds (TQ : Tq P K mg) : Has P w K mg base CX0 7 (He.ga K "_law_holds") ["teacher", "word"] (spLholds K) := by
  have T := TQ.t
  have G_holds := ok_Teacher_holds (w := w) (base := base) TQ
  have G_refusal := ok_refusal (w := w) (base := base) TQ
  refine has_of T.f_Lholds sc_Lholds (fun _ _ _ _ _ _ us hl => match us, hl with | [_, _], _ => rfl) (fun vs H Q E h => ?_) (fun cdv A0 outer s H vs Q E hr h => ?_)
  · obtain ⟨t, l, x, A, EA, as, g, rfl, _⟩ := h
    rfl
  · obtain ⟨t, l, x, A, EA, as, g, rfl, hT, lo, mo, few, k, kx⟩ := h
    have hrH := (roomH_of hr).mono (j := 1) (by decide)
    refine ⟨_, (pss_one (ps_try_as (i := 2) (tb := fun W => tRet (tMtS (CT K) "holds" (spHolds K) (WE W) (tVar 0) (tCons (tVar 1) tNil))) (ts := tSuite K) (Wout := fun _ _ _ _ => False) rfl rfl sc_Lholds.nd rfl rfl ⟨rfl, by decide, Or.inl T.g_LanguageError⟩ takes0
      (fun W pn xe tk _ => pss_one (ps_ret (pe_mtS (pv 0) T.c_Teacher T.k_Teacher_holds G_holds (hr.mono (by decide)) (fun σ => passAt tk σ) (pa_cons (pv 1) pa_nil))))
      (fun a oe cls d pn hz hf => pss_one (ps_ret (pe_imp (pe_cE (p := (a, oe)) G_refusal ⟨hrH.dp, hrH.un⟩ List.mem_cons_self T.g__law_refusal (pa_cons (pv 2) pa_nil)) ?_))))), ?_⟩
    · intro σ H Q ⟨x, h0, h1⟩
      exact ⟨x, h0, spRf_of hz hf h1⟩
    · obtain ⟨dx, m, q, ht, _⟩ := id hT
      refine ⟨_, rfl, t, dx, _, rfl, ht, tf_no _ _ _ _ (sn "holds" "guessed") (sn "holds" "asked") (sn "holds" "letters") (sn "holds" "machine"), _, rfl, t, l, x, A, EA, as, g, rfl, hT, lo, mo, few, k, fun i b H' d e hd => ?_⟩
      exact ⟨true, TQ.b_BadWord, fun _ a ha => ⟨_, rfl, rfl, .inr ⟨d, x, i, rfl, rfl, hd, fun H'' r e2 hr => kx i b _ r (e.trans e2) hr⟩⟩, fun q => Bool.noConfusion q⟩
abbrev N_Lrefute : List Str := ["teacher", "machine", "e"]
theorem sc_Lrefute : FnScope N_Lrefute ["teacher", "machine"] (defScope s_Lrefute) := ⟨rfl, rfl, rfl, by decide +kernel, rfl, by decide +kernel, by decide +kernel⟩
def spLrefute (K : PySem.W.Frag) : Sp := fun vs H Q _ => ∃ (t p : Addr) (l l' : Str) (A : List (List Int)) (EA : List Int) (B : List (List Int)) (EB : List Int) (as : List Str) (g : Int), vs = [.ref t, .ref p] ∧ TeachAt K H t l A EA as g ∧ MachAt (CM K) H p l' B EB ∧ LOk l ∧ MOk (cs l).length A EA ∧ MOk (cs l').length B EB ∧
  (l = l' → ∀ H' r, But t H H' → TeachAt K H' t l A EA as (g + 1) → IsPart (cs l).length A EA B EB r → Q (optW l r) H') ∧ (l ≠ l' → ∀ H' r, Same H H' → H' r = some (.tup [.str "letters"]) → Q (.ref r) H')
theorem ok_Lrefute (TQ : Tq P K mg) : Has P w K mg base CX0 7 (He.ga K "_law_refute") ["teacher", "machine"] (spLrefute K) := by
  have T := TQ.t
  have G_refute := ok_Teacher_refute (w := w) (base := base) TQ
  have G_refusal := ok_refusal (w := w) (base := base) TQ
  refine has_of T.f_Lrefute sc_Lrefute (fun _ _ _ _ _ _ us hl => match us, hl with | [_, _], _ => rfl) (fun vs H Q E h => ?_) (fun cdv A0 outer s H vs Q E hr h => ?_)
  · obtain ⟨t, p, l, l', A, EA, B, EB, as, g, rfl, _⟩ := h
    rfl
  · obtain ⟨t, p, l, l', A, EA, B, EB, as, g, rfl, hT, hMB, lo, mA, mB, k, kx⟩ := h
    have hrH := (roomH_of hr).mono (j := 1) (by decide)
    refine ⟨_, (pss_one (ps_try_as (i := 2) (tb := fun W => tRet (tMtS (CT K) "refute" (spRefute K) (WE W) (tVar 0) (tCons (tVar 1) tNil))) (ts := tSuite K) (Wout := fun _ _ _ _ => False) rfl rfl sc_Lrefute.nd rfl rfl ⟨rfl, by decide, Or.inl T.g_LanguageError⟩ takes0
      (fun W pn xe tk _ => pss_one (ps_ret (pe_mtS (pv 0) T.c_Teacher T.k_Teacher_refute G_refute (hr.mono (by decide)) (fun σ => passAt tk σ) (pa_cons (pv 1) pa_nil))))
      (fun a oe cls d pn hz hf => pss_one (ps_ret (pe_imp (pe_cE (p := (a, oe)) G_refusal ⟨hrH.dp, hrH.un⟩ List.mem_cons_self T.g__law_refusal (pa_cons (pv 2) pa_nil)) ?_))))), ?_⟩
    · intro σ H Q ⟨x, h0, h1⟩
      exact ⟨x, h0, spRf_of hz hf h1⟩
    · obtain ⟨dx, m, q, ht, _⟩ := id hT
      refine ⟨_, rfl, t, dx, _, rfl, ht, tf_no _ _ _ _ (sn "refute" "guessed") (sn "refute" "asked") (sn "refute" "letters") (sn "refute" "machine"), _, rfl, t, p, l, l', A, EA, B, EB, as, g, rfl, hT, hMB, lo, mA, mB, k, fun ne => ?_⟩
      exact ⟨true, TQ.b_BadLetters, fun _ a ha => ⟨_, rfl, rfl, .inl ⟨rfl, rfl, fun H'' r e2 hr => kx ne _ r e2 hr⟩⟩, fun q => Bool.noConfusion q⟩
end
end Fy

set_option Elab.async false
set_option linter.all false
set_option maxRecDepth 100000
set_option maxHeartbeats 4000000
namespace Fy
open PySem PySem.Spec PyProof.Rows L2
abbrev N_Lnext : List Str := ["state", "many", "cells", "cell", "told", "turn", "mixed"]
theorem sc_Lnext : FnScope N_Lnext ["state", "many"] (defScope s_Lnext) := ⟨rfl, rfl, rfl, by decide +kernel, rfl, by decide +kernel, by decide +kernel⟩
section
variable {P : Program} {w : World} {K : PySem.W.Frag} {mg : Str → Option Value} {base : Heap}
theorem fmod_range {a b : Int} (h : 0 < b) : 0 ≤ a.fmod b ∧ a.fmod b < b := ⟨Int.fmod_nonneg_of_pos a h, Int.fmod_lt_of_pos a h⟩
theorem fdiv_nn {a b : Int} (h0 : 0 ≤ a) (h : 0 < b) : 0 ≤ a.fdiv b := Int.fdiv_nonneg h0 (Int.le_of_lt h)
theorem ok_Lnext (T : Tx K mg) : Has P w K mg base CX0 1 (He.ga K "_law_next") ["state", "many"] spNext := by
  refine has_of T.f_Lnext sc_Lnext (fun _ _ _ _ _ _ us hl => match us, hl with | [_, _], _ => rfl) (fun vs H Q E h => ?_) (fun cdv A outer s H vs Q E hr h => ?_)
  · obtain ⟨st, many, ca, rfl, _⟩ := h
    rfl
  · obtain ⟨st, many, ca, rfl, ⟨cells, i, a, j, h1, h2, hne, hi, ha, hj, hc⟩, m0, m1, k⟩ := h
    have hlen : 0 < (cells.length : Int) := by
      have := List.length_pos_iff.mpr hne
      omega
    have hmn : many ≠ 0 := by omega
    have hca : ca ≠ st := fun e => by
      rw [e] at h2; rw [h2] at h1
      cases cells with
      | nil => cases h1
      | cons c cs => simp at h1
    refine ⟨_, (pss_cons (ps_set (i := 2) sc_Lnext.nd rfl (Or.inl rfl) (pe_ix ix_q (pv 0) (pe_int) (fun _ _ => rfl)))
    (pss_cons (ps_set (i := 3) sc_Lnext.nd rfl (Or.inl rfl) (pe_ix ix_q (pv 2) (pe_op op_modN (pe_callTy call_intI (by rfl) T.z_int (by decide +kernel) (pa_cons (pe_ix ix_q (pv 0) (pe_int) (fun _ _ => rfl)) pa_nil)) (pe_callB call_lenQ (by rfl) T.z_len PySem.boot_len (pa_cons (pv 2) pa_nil))) (fun _ _ => rfl)))
    (Evl.pss_cut (ps_if (PW.pt (pw_and (pt_cmpR op_ge (pv 3) (pe_op op_pow (pe_int) (pe_int)) (nomark _)) (pw_and1 (pt_cmpR op_lt (pe_ix ix_q (pv 0) (pe_int) (fun _ _ => rfl)) (pe_callB call_lenQ (by rfl) T.z_len PySem.boot_len (pa_cons (pv 2) pa_nil)) (nomark _)))))
    (Evl.pss_cut (ps_if (pt_cmpR op_eq (pe_ix ix_q (pv 0) (pe_int) (fun _ _ => rfl)) (pe_int) (nomark _))
      (pss_one (ps_asg (pv 3) (pg_sub (pv 0) (pe_int) set_list)))
      (pss_nil))
      (pss_cons (ps_set (i := 4) sc_Lnext.nd rfl (Or.inl rfl) (pe_op op_modN (pe_callTy call_intI (by rfl) T.z_int (by decide +kernel) (pa_cons (pe_ix ix_q (pv 0) (pe_int) (fun _ _ => rfl)) pa_nil)) (pv 1)))
      (pss_cons (ps_asg (pe_op op_fdivN (pe_callTy call_intI (by rfl) T.z_int (by decide +kernel) (pa_cons (pe_ix ix_q (pv 0) (pe_int) (fun _ _ => rfl)) pa_nil)) (pv 1)) (pg_sub (pv 0) (pe_int) set_list))
      (pss_cons (ps_asg (pe_op op_add (pe_ix ix_q (pv 0) (pe_int) (fun _ _ => rfl)) (pe_int)) (pg_sub (pv 0) (pe_int) set_list))
      (Evl.pss_cut (ps_if (PW.pt (pw_or (pt_cmpR op_eq (pe_ix ix_q (pv 0) (pe_int) (fun _ _ => rfl)) (pe_int) (nomark _)) (pw_or1 (pt_cmpR op_ge (pe_ix ix_q (pv 0) (pe_int) (fun _ _ => rfl)) (pe_int) (nomark _)))))
      (pss_cons (ps_asg (pe_op op_add (pe_ix ix_q (pv 0) (pe_int) (fun _ _ => rfl)) (pe_int)) (pg_sub (pv 0) (pe_int) set_list))
        (pss_one (ps_asg (pe_int) (pg_sub (pv 0) (pe_int) set_list))))
      (pss_nil))
      (pss_one (ps_ret (pv 4))))))))
    (pss_nil))
    (pss_cons (ps_set (i := 5) sc_Lnext.nd rfl (Or.inl rfl) (pe_op op_add (pe_ix ix_q (pv 0) (pe_int) (fun _ _ => rfl)) (pe_op op_mul (pe_int) (pe_ix ix_q (pv 0) (pe_int) (fun _ _ => rfl)))))
    (pss_cons (ps_set (i := 6) sc_Lnext.nd rfl (Or.inl rfl) (pe_op op_mul (pe_op op_add (pe_op op_modN (pe_callTy call_intI (by rfl) T.z_int (by decide +kernel) (pa_cons (pv 3) pa_nil)) (pe_int)) (pe_int)) (pe_op op_add (pe_int) (pe_op op_mul (pe_int) (pv 5)))))
    (pss_cons (ps_set (i := 6) sc_Lnext.nd rfl (Or.inl rfl) (pe_op op_modN (pe_callTy call_intI (by rfl) T.z_int (by decide +kernel) (pa_cons (pv 6) pa_nil)) (pe_int)))
    (pss_cons (ps_set (i := 6) sc_Lnext.nd rfl (Or.inl rfl) (pe_op op_modN (pe_callTy call_intI (by rfl) T.z_int (by decide +kernel) (pa_cons (pe_op op_add (pe_op op_add (pe_op op_mul (pv 6) (pv 6)) (pe_op op_mul (pe_int) (pv 5))) (pe_int)) pa_nil)) (pe_int)))
    (pss_cons (ps_asg (pe_op op_add (pe_ix ix_q (pv 0) (pe_int) (fun _ _ => rfl)) (pe_int)) (pg_sub (pv 0) (pe_int) set_list))
    (Evl.pss_cut (ps_if (pt_cmpR op_ge (pe_ix ix_q (pv 0) (pe_int) (fun _ _ => rfl)) (pe_int) (nomark _))
    (pss_cons (ps_asg (pe_op op_add (pe_ix ix_q (pv 0) (pe_int) (fun _ _ => rfl)) (pe_int)) (pg_sub (pv 0) (pe_int) set_list))
      (pss_one (ps_asg (pe_int) (pg_sub (pv 0) (pe_int) set_list))))
    (pss_nil))
    (pss_one (ps_ret (pe_op op_modN (pe_callTy call_intI (by rfl) T.z_int (by decide +kernel) (pa_cons (pe_op op_fdivN (pv 6) (pe_int)) pa_nil)) (pv 1))))))))))))), ?_⟩
    -- cells = state[0]; cell = cells[int(state[1]) % len(cells)]
    refine ⟨_, rfl, _, _, _, _, rfl, rfl, .l h1, rfl, ?_⟩
    have hm := fmod_range (a := i) hlen
    refine ⟨_, rfl, _, rfl, _, _, _, _, rfl, rfl, .l h1, rfl, _, rfl, _, rfl, _, _, rfl, .l h2, _, _, rfl, rfl, (by rw [List.length_map]; omega), _, _, _, _, rfl, rfl, .l h2, atI_gi (by rw [List.length_map]; exact hm.1) (by rw [List.length_map]; exact hm.2), ?_⟩
    rw [List.length_map]
    have hcell : 0 ≤ gi cells (i.fmod cells.length) := by
      unfold gi
      have hlt : (i.fmod cells.length).toNat < cells.length := by omega
      rw [List.getD_eq_getElem?_getD, List.getElem?_eq_getElem hlt]
      exact hc _ (List.getElem_mem hlt)
    generalize gi cells (i.fmod cells.length) = cell at hcell
    -- if cell >= 10 ** 18 and state[1] < len(cells): ..
    refine ⟨fun σ' H' => σ' = [some (.ref st), some (.int many), some (.ref ca), some (.int cell), none, none, none] ∧ H = H', ?_, ?_⟩
    · refine ⟨_, rfl, _, _, rfl, rfl, ⟨by decide, by decide, by decide⟩, _, _, rfl, rfl, _, rfl, ite2 (fun c1 => ?_) (fun c1 => ⟨rfl, rfl⟩)⟩
      refine ⟨_, rfl, _, _, _, _, rfl, rfl, .l h1, rfl, _, rfl, _, _, rfl, .l h2, _, _, rfl, rfl, _, rfl, ite2 (fun c2 => ?_) (fun c2 => ⟨rfl, rfl⟩)⟩
      -- if state[3] == 0: state[2] = cell
      refine ⟨fun σ' H' => σ' = [some (.ref st), some (.int many), some (.ref ca), some (.int cell), none, none, none] ∧ ∃ a', 0 ≤ a' ∧ H' st = some (.lst [.ref ca, .int i, .int a', .int j]) ∧ But st H H', ?_, ?_⟩
      · refine ⟨_, rfl, _, _, _, _, rfl, rfl, .l h1, rfl, rfl, _, rfl, ite2 (fun c3 => ?_) (fun c3 => ⟨rfl, a, ha, h1, But.refl _ _⟩)⟩
        exact ⟨_, rfl, _, rfl, _, _, _, _, rfl, rfl, h1, rfl, rfl, cell, hcell, upd_same, But.upd _ _ _⟩
      · rintro σ' H1 ⟨rfl, a', ha', g1, b1⟩
        have g2 := b1 _ _ hca h2
        -- told = int(state[2]) % many; state[2] = int(state[2]) // many; state[3] = state[3] + 1
        refine ⟨_, rfl, _, _, _, _, rfl, rfl, .l g1, rfl, _, rfl, _, rfl, _, _, rfl, rfl, hmn, ?_⟩
        refine ⟨_, rfl, _, _, _, _, rfl, rfl, .l g1, rfl, _, rfl, _, rfl, _, _, rfl, rfl, ⟨hmn, by omega⟩, _, rfl, _, _, _, _, rfl, rfl, g1, rfl, ?_⟩
        refine ⟨_, rfl, _, _, _, _, rfl, rfl, .l upd_same, rfl, _, _, rfl, rfl, _, rfl, _, _, _, _, rfl, rfl, upd_same, rfl, ?_⟩
        rw [upd_upd]
        have ht := fmod_range (a := a') m0
        have hd := fdiv_nn (a := a') ha' m0
        have b2 : ∀ o, But st H (upd H1 st o) := fun o => b1.trans (But.upd _ _ _)
        refine ⟨fun σ' H' => σ' = [some (.ref st), some (.int many), some (.ref ca), some (.int cell), some (.int (a'.fmod many)), none, none] ∧ ∃ i' a'' j', 0 ≤ i' ∧ 0 ≤ a'' ∧ 0 ≤ j' ∧ H' st = some (.lst [.ref ca, .int i', .int a'', .int j']) ∧ But st H H', ?_, ?_⟩
        · refine ⟨_, rfl, _, _, _, _, rfl, rfl, .l upd_same, rfl, rfl, _, rfl, ite2 (fun c4 => ?_) (fun c4 => ?_)⟩
          · refine ⟨_, rfl, _, _, _, _, rfl, rfl, .l upd_same, rfl, _, _, rfl, rfl, _, rfl, _, _, _, _, rfl, rfl, upd_same, rfl, ?_⟩
            refine ⟨_, rfl, _, _, _, _, rfl, rfl, upd_same, rfl, ?_⟩
            rw [upd_upd, upd_upd]
            exact ⟨rfl, _, _, _, (by omega : 0 ≤ i + 1), hd, (by decide : (0 : Int) ≤ 0), upd_same, b2 _⟩
          · refine ⟨_, rfl, _, _, _, _, rfl, rfl, .l upd_same, rfl, _, _, rfl, rfl, _, rfl, ite2 (fun c5 => ?_) (fun c5 => ⟨rfl, _, _, _, hi, hd, (by omega : 0 ≤ j + 1), upd_same, b2 _⟩)⟩
            refine ⟨_, rfl, _, _, _, _, rfl, rfl, .l upd_same, rfl, _, _, rfl, rfl, _, rfl, _, _, _, _, rfl, rfl, upd_same, rfl, ?_⟩
            refine ⟨_, rfl, _, _, _, _, rfl, rfl, upd_same, rfl, ?_⟩
            rw [upd_upd, upd_upd]
            exact ⟨rfl, _, _, _, (by omega : 0 ≤ i + 1), hd, (by decide : (0 : Int) ≤ 0), upd_same, b2 _⟩
        · rintro σ' H2 ⟨rfl, i', a'', j', hi', ha'', hj', g3, b3⟩
          exact ⟨_, rfl, k _ _ ht.1 ht.2 ⟨cells, i', a'', j', g3, b3 _ _ hca h2, hne, hi', ha'', hj', hc⟩ b3⟩
    · rintro σ' H' ⟨rfl, rfl⟩
      -- turn = state[3] + 7 * state[1]; mixed = ..
      refine ⟨_, rfl, _, _, _, _, rfl, rfl, .l h1, rfl, _, rfl, _, _, _, _, rfl, rfl, .l h1, rfl, _, _, rfl, rfl, .inl (by decide), _, _, rfl, rfl, ?_⟩
      have r1 := fmod_range (a := cell) (b := 2147483629) (by decide)
      refine ⟨_, rfl, _, rfl, _, _, rfl, rfl, (by show (_ : Int) ≠ 0; decide), _, _, rfl, rfl, _, rfl, _, _, rfl, rfl, .inl (by decide), _, _, rfl, rfl, _, _, rfl, rfl, .inl ⟨by omega, by omega⟩, ?_⟩
      refine ⟨_, rfl, _, rfl, _, _, rfl, rfl, (by show (_ : Int) ≠ 0; decide), ?_⟩
      have r2 := fmod_range (a := (cell.fmod 2147483629 + 1) * (48271 + 2 * (j + 7 * i))) (b := 2147483647) (by decide)
      refine ⟨_, rfl, _, rfl, _, _, rfl, rfl, .inl ⟨by omega, by omega⟩, _, rfl, _, _, rfl, rfl, .inl (by decide), _, _, rfl, rfl, _, _, rfl, rfl, _, rfl, _, _, rfl, rfl, (by show (_ : Int) ≠ 0; decide), ?_⟩
      -- state[3] = state[3] + 1; if state[3] >= 6: ..
      refine ⟨_, rfl, _, _, _, _, rfl, rfl, .l h1, rfl, _, _, rfl, rfl, _, rfl, _, _, _, _, rfl, rfl, h1, rfl, ?_⟩
      refine ⟨fun σ' H' => (∃ m2, σ' = [some (.ref st), some (.int many), some (.ref ca), some (.int cell), none, some (.int (j + 7 * i)), some (.int m2)]) ∧ ∃ i' j', 0 ≤ i' ∧ 0 ≤ j' ∧ H' st = some (.lst [.ref ca, .int i', .int a, .int j']) ∧ But st H H', ?_, ?_⟩
      · refine ⟨_, rfl, _, _, _, _, rfl, rfl, .l upd_same, rfl, _, _, rfl, rfl, _, rfl, ite2 (fun c5 => ?_) (fun c5 => ⟨⟨_, rfl⟩, _, _, hi, (by omega : 0 ≤ j + 1), upd_same, But.upd _ _ _⟩)⟩
        refine ⟨_, rfl, _, _, _, _, rfl, rfl, .l upd_same, rfl, _, _, rfl, rfl, _, rfl, _, _, _, _, rfl, rfl, upd_same, rfl, ?_⟩
        refine ⟨_, rfl, _, _, _, _, rfl, rfl, upd_same, rfl, ?_⟩
        rw [upd_upd, upd_upd]
        exact ⟨⟨_, rfl⟩, _, _, (by omega : 0 ≤ i + 1), (by decide : (0 : Int) ≤ 0), upd_same, But.upd _ _ _⟩
      · rintro σ' H2 ⟨⟨m2', rfl⟩, i', j', hi', hj', g3, b3⟩
        have ht := fmod_range (a := m2'.fdiv 5) m0
        exact ⟨_, rfl, _, _, rfl, rfl, ⟨by decide, by decide⟩, _, rfl, _, rfl, _, _, rfl, rfl, hmn, k _ _ ht.1 ht.2 ⟨cells, i', a, j', g3, b3 _ _ hca h2, hne, hi', ha, hj', hc⟩ b3⟩
end
end Fy

set_option Elab.async false
set_option linter.all false
set_option maxRecDepth 100000
set_option maxHeartbeats 4000000
namespace Fy
open PySem PySem.Spec PyProof.Rows L2
section
theorem for_rng {n : Nat} {g : TG} {tb : TS} {D : Ends} {σ : L2.St} {H : Hp} (Pv : Nat → L2.St → Hp → Prop) (h0 : Pv 0 σ H)
    (hs : ∀ i σ H, i < n → Pv i σ H → g (.int (i : Nat)) σ H fun σ2 H2 => tb { D with nx := Pv (i + 1), ct := Pv (i + 1), bk := D.nx } σ2 H2) (hd : ∀ σ H, Pv n σ H → D.nx σ H) : ForW g tb D σ H (Itr 0 n) :=
  for_range (lo := 0) Pv h0 (fun i σ H hi p => by rw [Int.zero_add]; exact hs i σ H hi p) hd
theorem lc_rng {n : Nat} {g : TG} {tt : TT} {te : TE} {vs : List Nat} {σ : L2.St} {H1 : Hp} {D : Addr} {Qd : Hp → Prop} (Pv : Nat → Hp → Prop) (h0 : Pv 0 (upd H1 D (.lst [])))
    (hs : ∀ i H, i < n → Pv i H → g (.int (i : Nat)) (wipe σ vs) H fun σ2 H2 => wipe σ2 vs = wipe σ vs ∧ tt σ2 H2 fun b H3 =>
      if b = true then te σ2 H3 fun y H4 => ∃ acc, H4 D = some (.lst acc) ∧ acc.length < sizeLine ∧ Pv (i + 1) (upd H4 D (.lst (acc ++ [y]))) else Pv (i + 1) H3) (hd : ∀ H, Pv n H → Qd H) : LcW g tt te vs σ H1 D Qd (Itr 0 n) :=
  lc_range (lo := 0) Pv h0 (fun i H hi p => by rw [Int.zero_add]; exact hs i H hi p) hd
theorem BF.skip {n : Nat} {A B : List (List Int)} {EA EB : List Int} {qs : List (List Nat)} {k : Nat} (h : BF n A B EA EB qs k 0) (hl : qs.length ≤ k) : BF n A B EA EB qs (k + 1) 0 :=
  ⟨h.first, h.val, h.nd, h.srt, fun w0 h0 => by have := (List.getElem?_eq_some_iff.mp h0).1; omega, fun i w a hi hw ha => h.suc i w a (by have := (List.getElem?_eq_some_iff.mp hw).1; omega) hw ha, fun w a _ ha => by omega,
    fun i w hi hw => h.same i w (by have := (List.getElem?_eq_some_iff.mp hw).1; omega) hw, h.thin⟩
variable {P : Program} {w : World} {K : PySem.W.Frag} {mg : Str → Option Value} {base : Heap}
abbrev N_Linteger : List Str := ["actual"]
theorem sc_Linteger : FnScope N_Linteger ["actual"] (defScope s_Linteger) := ⟨rfl, rfl, rfl, by decide +kernel, rfl, by decide +kernel, by decide +kernel⟩
def spInteger : Sp := fun vs H Q _ => ∃ i : Int, vs = [.int i] ∧ Q (.bl true) H
theorem ok_Linteger (T : Tx K mg) : Has P w K mg base CX0 1 (He.ga K "_law_integer") ["actual"] spInteger := by
  refine has_of T.f_Linteger sc_Linteger (fun _ _ _ _ _ _ us hl => match us, hl with | [_], _ => rfl) (fun vs H Q E h => ?_) (fun cdv A0 outer s H vs Q E hr h => ?_)
  · obtain ⟨i, rfl, _⟩ := h
    rfl
  · obtain ⟨i, rfl, k⟩ := h
    refine ⟨_, (pss_one (ps_ret (pe_and (pe_callB call_isi (by rfl) T.z_isinstance (by decide +kernel) (pa_cons (pv 0) (pa_cons (pe_bltn (v := .ty "int") (by rfl) T.z_int (by decide +kernel) rfl) pa_nil))) (pe_one (pe_not (pe_callB call_isi (by rfl) T.z_isinstance (by decide +kernel) (pa_cons (pv 0) (pa_cons (pe_bltn (v := .ty "bool") (by rfl) T.z_bool (by decide +kernel) rfl) pa_nil)))))))), ?_⟩
    exact ⟨_, rfl, _, _, _, _, true, rfl, .ty _, .base (.int i), kit_ty (by decide +kernel), _, rfl, ite2 (fun _ => ⟨_, rfl, _, _, _, _, false, rfl, .ty _, .base (.int i), kit_ty (by decide +kernel), _, rfl, k⟩) (fun z => absurd rfl z)⟩
abbrev N_Lstep : List Str := ["rows", "at", "place"]
theorem sc_Lstep : FnScope N_Lstep ["rows", "at", "place"] (defScope s_Lstep) := ⟨rfl, rfl, rfl, by decide +kernel, rfl, by decide +kernel, by decide +kernel⟩
def spLstep : Sp := fun vs H Q _ => ∃ (a : Addr) (n : Nat) (rows : List (List Int)) (ends : List Int) (q : Int) (j : Nat), vs = [.ref a, .int q, .int (j : Nat)] ∧ Rows H a rows ∧ MOk n rows ends ∧ -1 ≤ q ∧ q < rows.length ∧ j < n ∧ Q (.int (stp rows q j)) H
theorem ok_Lstep (T : Tx K mg) : Has P w K mg base CX0 1 (He.ga K "_law_step") ["rows", "at", "place"] spLstep := by
  refine has_of T.f_Lstep sc_Lstep (fun _ _ _ _ _ _ us hl => match us, hl with | [_, _, _], _ => rfl) (fun vs H Q E h => ?_) (fun cdv A outer s H vs Q E hr h => ?_)
  · obtain ⟨a, n, rows, ends, q, j, rfl, _⟩ := h
    rfl
  · obtain ⟨a, n, rows, ends, q, j, rfl, hR, mo, q0, q1, hj, k⟩ := h
    refine ⟨_, (pss_cons (ps_if (pt_cmpR op_lt (pv 1) (pe_int) (nomark _))
    (pss_one (ps_ret (pe_un un_neg (pe_int))))
    (pss_nil))
    (pss_one (ps_ret (pe_ix ix_q (pe_ix ix_q (pv 0) (pv 1) (fun _ _ => rfl)) (pv 2) (fun _ _ => rfl))))), ?_⟩
    refine ⟨_, rfl, _, _, rfl, rfl, _, rfl, ite2 (fun c => ?_) (fun c => ?_)⟩
    · have c' : q < 0 := of_decide_eq_true c
      have : stp rows q j = -1 := by unfold stp; rw [if_pos c']
      rw [this] at k
      exact ⟨_, rfl, k⟩
    · have c' : 0 ≤ q := by
        have : ¬ q < 0 := fun z => c (decide_eq_true z)
        omega
      obtain ⟨t, ht, et, _⟩ := mo.at c' q1 hj
      obtain ⟨pr, xs, hS, hat, hrow⟩ := hR.item c' q1
      rw [et] at k
      exact ⟨_, rfl, _, rfl, _, _, _, .ref pr, rfl, rfl, hS, hat, _, rfl, _, _, _, .int t, rfl, rfl, hrow, atI_nat (by rw [List.getElem?_map, ht]; rfl), k⟩
abbrev N_Lheld : List Str := ["rows", "ends", "letters", "word", "at", "sign"]
theorem sc_Lheld : FnScope N_Lheld ["rows", "ends", "letters", "word"] (defScope s_Lheld) := ⟨rfl, rfl, rfl, by decide +kernel, rfl, by decide +kernel, by decide +kernel⟩
def spLheld : Sp := fun vs H Q _ => ∃ (a e : Addr) (l x : Str) (rows : List (List Int)) (ends : List Int), vs = [.ref a, .ref e, .str l, .str x] ∧ Rows H a rows ∧ Ints H e ends ∧ LOk l ∧ MOk (cs l).length rows ends ∧ WOk l x ∧ Q (.bl (acc rows ends (ix l x))) H
theorem ok_Lheld (T : Tx K mg) : Has P w K mg base CX0 1 (He.ga K "_law_held") ["rows", "ends", "letters", "word"] spLheld := by
  refine has_of T.f_Lheld sc_Lheld (fun _ _ _ _ _ _ us hl => match us, hl with | [_, _, _, _], _ => rfl) (fun vs H Q E h => ?_) (fun cdv A outer s H vs Q E hr h => ?_)
  · obtain ⟨a, e, l, x, rows, ends, rfl, _⟩ := h
    rfl
  · obtain ⟨a, e, l, x, rows, ends, rfl, hR, hE, lo, mo, wo, k⟩ := h
    refine ⟨_, (pss_cons (ps_set (i := 4) sc_Lheld.nd rfl (Or.inl rfl) (pe_int))
    (pss_cons (ps_for PassesOwn.never rfl (pi_str (pv 3)) (pg_name (i := 5) sc_Lheld.nd rfl (Or.inl rfl))
    (pss_one (ps_if (pt_cmpR op_ge (pv 4) (pe_int) (nomark _))
      (pss_one (ps_set (i := 4) sc_Lheld.nd rfl (Or.inl rfl) (pe_ix ix_q (pe_ix ix_q (pv 0) (pv 4) (fun _ _ => rfl)) (pe_bm PySem.F.plainAttrs_str PySem.F.slot_str_index PySem.F.type_str_index mt_ix (pv 2) (pa_cons (pv 5) pa_nil)) (fun _ _ => rfl))))
      (pss_nil))))
    (pss_one (ps_ret (pe_cmpR op_inQ (pv 4) (pv 1) (by rfl)))))), ?_⟩
    refine ⟨_, rfl, x, rfl, for_it walk_str (fun i σ H' => ∃ v, σ = [some (.ref a), some (.ref e), some (.str l), some (.str x), some (.int (run1 rows 0 ((ix l x).take i))), v] ∧ H' = H) ⟨_, rfl, rfl⟩ (fun _ _ _ _ _ => trivial) ?_ ?_⟩
    · rintro i v σ' H2 H3 hi ⟨v', rfl, rfl⟩ ⟨rfl, c, hc, rfl⟩
      have hc' : (cs x)[i]? = some c := by simpa using hc
      have hm := wo c (List.mem_of_getElem? hc')
      have hix : (ix l x)[i]? = some ((cs l).idxOf c) := by unfold ix; rw [List.getElem?_map, hc']; rfl
      have tk : (ix l x).take (i + 1) = (ix l x).take i ++ [(cs l).idxOf c] := by rw [List.take_add_one, hix]; rfl
      obtain ⟨r0, r1⟩ := run1_range mo ((ix l x).take i) 0 (by decide) (by have := mo.pos; omega) (fun q hq => ix_lt wo q (List.mem_of_mem_take hq))
      refine ⟨_, rfl, _, _, rfl, rfl, _, rfl, ite2 (fun z => ?_) (fun z => ?_)⟩
      · have z' := of_decide_eq_true z
        obtain ⟨pr, xs, hS, hat, hrow⟩ := hR.item z' r1
        obtain ⟨t, ht, et, _⟩ := mo.at z' r1 (List.idxOf_lt_length_of_mem hm)
        refine ⟨_, rfl, _, rfl, _, _, _, .ref pr, rfl, rfl, hS, hat, _, rfl, rfl, _, rfl, l, c, _, rfl, rfl, lo.nodup, idx_at hm, _, _, _, .int t, rfl, rfl, hrow, atI_nat (by rw [List.getElem?_map, ht]; rfl), ?_⟩
        refine ⟨some (.str (sg c)), ?_, rfl⟩
        rw [tk, run1_snoc, et]; rfl
      · have z' : ¬ (0 ≤ run1 rows 0 ((ix l x).take i)) := fun y => z (decide_eq_true y)
        refine ⟨some (.str (sg c)), ?_, rfl⟩
        rw [tk, run1_snoc]
        unfold stp
        rw [if_pos (by omega)]
        have : run1 rows 0 ((ix l x).take i) = -1 := by omega
        rw [this]
        rfl
    · rintro σ' H2 ⟨v', rfl, rfl⟩
      have : (ix l x).take x.cps.size = ix l x := by
        apply List.take_of_length_le
        unfold ix
        simp
      rw [this]
      refine ⟨_, rfl, _, rfl, _, _, rfl, hE, rfl, flat_ints _, ?_⟩
      show Q (.bl (inV _ _)) _
      rw [inV_ints]
      exact k
abbrev N_Ldue : List Str := ["hidden", "letters", "word", "place"]
theorem sc_Ldue : FnScope N_Ldue ["hidden", "letters", "word"] (defScope s_Ldue) := ⟨rfl, rfl, rfl, by decide +kernel, rfl, by decide +kernel, by decide +kernel⟩
def PairAt (H : Hp) (p : Addr) (rows : List (List Int)) (ends : List Int) : Prop := ∃ a b : Addr, H p = some (.tup [.ref a, .ref b]) ∧ Rows H a rows ∧ H b = some (.lst (ends.map V.int))
def spDue : Sp := fun vs H Q _ => ∃ (p : Addr) (l x : Str) (rows : List (List Int)) (ends : List Int), vs = [.ref p, .str l, .str x] ∧ PairAt H p rows ends ∧ LOk l ∧ MOk (cs l).length rows ends ∧ x.cps.size ≤ 1000 ∧
  (WOk l x → Q (.bl (acc rows ends (ix l x))) H) ∧ (∀ i, BadAt l x i → ∀ H' r, Same H H' → H' r = some (.tup [.str "word", .str x, .int (i : Nat)]) → Q (.ref r) H')
theorem ok_Ldue (T : Tx K mg) : Has P w K mg base CX0 2 (He.ga K "_law_due") ["hidden", "letters", "word"] spDue := by
  have G_law_held := ok_Lheld (P := P) (w := w) (base := base) T
  refine has_of T.f_Ldue sc_Ldue (fun _ _ _ _ _ _ us hl => match us, hl with | [_, _, _], _ => rfl) (fun vs H Q E h => ?_) (fun cdv A outer s H vs Q E hr h => ?_)
  · obtain ⟨p, l, x, rows, ends, rfl, _⟩ := h
    rfl
  · obtain ⟨p, l, x, rows, ends, rfl, ⟨a, b, hp, hR, hb⟩, lo, mo, x1, k, kx⟩ := h
    have hsz : x.cps.size = (cs x).length := by simp
    refine ⟨_, (pss_cons (ps_for PassesOwn.never rfl (pi_range1 (by rfl) T.z_range (pa_cons (pe_callB call_len_str (by rfl) T.z_len PySem.boot_len (pa_cons (pv 2) pa_nil)) pa_nil)) (pg_name (i := 3) sc_Ldue.nd rfl (Or.inl rfl))
    (pss_one (ps_if (pt_cmpR op_notIn_sign (pe_ix ix_str (pv 2) (pv 3) (fun _ _ => rfl)) (pv 1) (by rfl))
      (pss_one (ps_ret (pe_tup (pa_cons (pe_str) (pa_cons (pv 2) (pa_cons (pv 3) pa_nil))))))
      (pss_nil))))
    (pss_one (ps_ret (pe_c G_law_held (hr.mono (by decide)) T.g__law_held (pa_cons (pe_ix ix_q (pv 0) (pe_int) (fun _ _ => rfl)) (pa_cons (pe_ix ix_q (pv 0) (pe_int) (fun _ _ => rfl)) (pa_cons (pv 1) (pa_cons (pv 2) pa_nil)))))))), ?_⟩
    have xl : x.length ≤ sizeLine := by rw [len_cs, ← hsz]; exact Nat.le_trans x1 (by decide)
    refine ⟨_, rfl, x, rfl, xl, (x.length : Int), rfl, by omega, by rw [len_cs, ← hsz]; omega, for_rng (n := ((x.length : Int)).toNat) (fun i σ H' => ∃ v, σ = [some (.ref p), some (.str l), some (.str x), v] ∧ H' = H ∧ ∀ (j : Nat) c', j < i → (cs x)[j]? = some c' → c' ∈ cs l) ⟨_, rfl, rfl, fun j c' hj => by omega⟩ ?_ ?_⟩
    · rintro i σ' H' hi ⟨v, rfl, rfl, hall⟩
      have hi' : i < (cs x).length := by rw [len_cs] at hi; omega
      have hc := List.getElem?_eq_getElem hi'
      generalize (cs x)[i] = c at hc
      refine ⟨_, rfl, _, rfl, x, (i : Int), c, rfl, rfl, xl, atI_nat hc, _, rfl, c, l, rfl, rfl, _, rfl, ite2 (fun z => ?_) (fun z => ?_)⟩
      · have hb : c ∉ cs l := by simpa using z
        exact ⟨_, rfl, _, rfl, by show 3 ≤ sizeLine; decide, fun r hr => kx i ⟨c, hc, hb, hall⟩ _ r (sm_new hr) upd_same⟩
      · have hb : c ∈ cs l := by simpa using z
        refine ⟨_, rfl, rfl, fun j c' hj hc2 => ?_⟩
        rcases Nat.lt_succ_iff_lt_or_eq.mp hj with y | y
        · exact hall j c' y hc2
        · subst y; rw [hc] at hc2; cases hc2; exact hb
    · rintro σ' H' ⟨v, rfl, rfl, hall⟩
      have wo : WOk l x := fun c hc => by
        obtain ⟨j, hj⟩ := List.getElem?_of_mem hc
        refine hall j c ?_ hj
        have := (List.getElem?_eq_some_iff.mp hj).1
        rw [len_cs]; omega
      exact ⟨_, rfl, _, _, _, .ref a, rfl, rfl, .t hp, rfl, _, rfl, _, _, _, .ref b, rfl, rfl, .t hp, rfl, _, rfl, _, rfl, a, b, l, x, rows, ends, rfl, hR, .l hb, lo, mo, wo, k wo⟩
abbrev N_Lword : List Str := ["state", "letters", "size", "word", "k"]
theorem sc_Lword : FnScope N_Lword ["state", "letters", "size"] (defScope s_Lword) := ⟨rfl, rfl, rfl, by decide +kernel, rfl, by decide +kernel, by decide +kernel⟩
def spLword : Sp := fun vs H Q _ => ∃ (st ca : Addr) (l : Str) (n : Nat), vs = [.ref st, .str l, .int (n : Nat)] ∧ Own H st ca ∧ LOk l ∧ n ≤ 500 ∧ ∀ H' x, But st H H' → Own H' st ca → WOk l x → x.cps.size = n → Q (.str x) H'
theorem ok_Lword (T : Tx K mg) : Has P w K mg base CX0 2 (He.ga K "_law_word") ["state", "letters", "size"] spLword := by
  have G_law_next := ok_Lnext (P := P) (w := w) (base := base) T
  refine has_of T.f_Lword sc_Lword (fun _ _ _ _ _ _ us hl => match us, hl with | [_, _, _], _ => rfl) (fun vs H Q E h => ?_) (fun cdv A outer s H vs Q E hr h => ?_)
  · obtain ⟨st, ca, l, n, rfl, _⟩ := h
    rfl
  · obtain ⟨st, ca, l, n, rfl, so, lo, n1, k⟩ := h
    have l4 := lo.four
    have l1 := lo.pos
    have ll : l.length ≤ sizeLine := by rw [len_cs]; exact Nat.le_trans l4 (by decide)
    refine ⟨_, (pss_cons (ps_set (i := 3) sc_Lword.nd rfl (Or.inl rfl) (pe_str))
    (pss_cons (ps_for PassesOwn.never rfl (pi_range1 (by rfl) T.z_range (pa_cons (pv 2) pa_nil)) (pg_name (i := 4) sc_Lword.nd rfl (Or.inl rfl))
    (pss_one (ps_set (i := 3) sc_Lword.nd rfl (Or.inl rfl) (pe_op op_add_str (pv 3) (pe_ix ix_str (pv 1) (pe_c G_law_next (hr.mono (by decide)) T.g__law_next (pa_cons (pv 0) (pa_cons (pe_callB call_len_str (by rfl) T.z_len PySem.boot_len (pa_cons (pv 1) pa_nil)) pa_nil))) (fun _ _ => rfl))))))
    (pss_one (ps_ret (pv 3))))), ?_⟩
    refine ⟨_, rfl, (n : Int), rfl, by omega, by omega, for_rng (n := ((n : Int)).toNat) (fun i σ H' => ∃ (v : Option V) (x : Str), σ = [some (.ref st), some (.str l), some (.int (n : Nat)), some (.str x), v] ∧ But st H H' ∧ Own H' st ca ∧ WOk l x ∧ x.cps.size = i) ⟨_, _, rfl, But.refl _ _, so, fun c hc => (by cases hc), rfl⟩ ?_ ?_⟩
    · rintro i σ' H1 hi ⟨v, x, rfl, bt, so1, wo, hx⟩
      have xl : x.length = i := hx
      refine ⟨_, rfl, _, rfl, _, rfl, _, rfl, l, rfl, ll, st, (l.length : Int), ca, rfl, so1, by rw [len_cs]; omega, by rw [len_cs]; omega, fun r H2 r0 r1 so2 b2 => ?_⟩
      have hr : r.toNat < (cs l).length := by rw [len_cs] at r1; omega
      have hc := List.getElem?_eq_getElem hr
      have hm := List.getElem_mem hr
      generalize (cs l)[r.toNat] = c at hc hm
      refine ⟨l, r, c, rfl, rfl, ll, atI_int r0 hc, x, ⟨#[c]⟩, rfl, rfl, ?_, _, _, rfl, bt.trans b2, so2, ?_, ?_⟩
      · rw [xl]; show i + 1 ≤ sizeLine; exact Nat.le_trans (by omega : _ ≤ 501) (by decide)
      · intro d hd
        have : d ∈ cs x ∨ d = c := by
          have e : cs (x ++ ⟨#[c]⟩) = cs x ++ [c] := by
            show (x.cps ++ #[c]).toList = _
            simp [cs]
          rw [e] at hd
          simpa using hd
        rcases this with z | z
        · exact wo d z
        · rw [z]; exact hm
      · show (x.cps ++ #[c]).size = i + 1
        simp [hx]
    · rintro σ' H1 ⟨v, x, rfl, bt, so1, wo, hx⟩
      exact ⟨_, rfl, k _ x bt so1 wo (by simpa using hx)⟩
end
end Fy

set_option Elab.async false
set_option linter.all false
set_option maxRecDepth 100000
set_option maxHeartbeats 4000000
namespace Fy
open PySem PySem.Spec PyProof.Rows L2
section
variable {P : Program} {w : World} {K : PySem.W.Frag} {mg : Str → Option Value} {base : Heap}
abbrev N_Lparting : List Str := ["letters", "rows", "ends", "others", "other_ends", "seen", "queue", "turn", "word", "left", "right", "place", "pair"]
theorem sc_Lparting : FnScope N_Lparting ["letters", "rows", "ends", "others", "other_ends"] (defScope s_Lparting) := ⟨rfl, rfl, rfl, by decide +kernel, rfl, by decide +kernel, by decide +kernel⟩
def spLparting : Sp := fun vs H Q _ => ∃ (l : Str) (aA aE aB aF : Addr) (A : List (List Int)) (EA : List Int) (B : List (List Int)) (EB : List Int), vs = [.str l, .ref aA, .ref aE, .ref aB, .ref aF] ∧ Rows H aA A ∧ Ints H aE EA ∧ Rows H aB B ∧ Ints H aF EB ∧ LOk l ∧ MOk (cs l).length A EA ∧ MOk (cs l).length B EB ∧
  ∀ H' r, Same H H' → IsPart (cs l).length A EA B EB r → Q (optW l r) H'
theorem ok_Lparting (T : Tx K mg) : Has P w K mg base CX0 2 (He.ga K "_law_parting") ["letters", "rows", "ends", "others", "other_ends"] spLparting := by
  have G_law_step := ok_Lstep (P := P) (w := w) (base := base) T
  refine has_of T.f_Lparting sc_Lparting (fun _ _ _ _ _ _ us hl => match us, hl with | [_, _, _, _, _], _ => rfl) (fun vs H Q E h => ?_) (fun cdv A0 outer s H vs Q E hr h => ?_)
  · obtain ⟨l, aA, aE, aB, aF, A, EA, B, EB, rfl, _⟩ := h
    rfl
  · obtain ⟨l, aA, aE, aB, aF, A, EA, B, EB, rfl, hRA, hEA, hRB, hEB, lo, mA, mB, k⟩ := h
    have hu := hu_of hr
    have ll : l.length ≤ sizeLine := by rw [len_cs]; exact Nat.le_trans lo.four (by decide)
    obtain ⟨xsA, hSA, hSAl⟩ := hRA.len
    obtain ⟨xsB, hSB, hSBl⟩ := hRB.len
    refine ⟨_, (pss_cons (ps_set (i := 5) sc_Lparting.nd rfl (Or.inl rfl) (pe_disp1T (Nat.lt_of_succ_lt hu) (pe_tup (pa_cons (pe_int) (pa_cons (pe_int) pa_nil))) (pe_bl)))
    (pss_cons (ps_set (i := 6) sc_Lparting.nd rfl (Or.inl rfl) (pe_lst (pa_cons (pe_tup (pa_cons (pe_str) (pa_cons (pe_int) (pa_cons (pe_int) pa_nil)))) pa_nil)))
    (pss_cons (ps_for PassesOwn.never rfl (pi_range1 (by rfl) T.z_range (pa_cons (pe_op op_mul (pe_op op_add (pe_callB call_lenQ (by rfl) T.z_len PySem.boot_len (pa_cons (pv 1) pa_nil)) (pe_int)) (pe_op op_add (pe_callB call_lenQ (by rfl) T.z_len PySem.boot_len (pa_cons (pv 3) pa_nil)) (pe_int))) pa_nil)) (pg_name (i := 7) sc_Lparting.nd rfl (Or.inl rfl))
    (pss_one (ps_if (pt_cmpR op_lt (pv 7) (pe_callB call_lenQ (by rfl) T.z_len PySem.boot_len (pa_cons (pv 6) pa_nil)) (nomark _))
      (pss_cons (ps_set (i := 8) sc_Lparting.nd rfl (Or.inl rfl) (pe_ix ix_q (pe_ix ix_q (pv 6) (pv 7) (fun _ _ => rfl)) (pe_int) (fun _ _ => rfl)))
        (pss_cons (ps_set (i := 9) sc_Lparting.nd rfl (Or.inl rfl) (pe_ix ix_q (pe_ix ix_q (pv 6) (pv 7) (fun _ _ => rfl)) (pe_int) (fun _ _ => rfl)))
        (pss_cons (ps_set (i := 10) sc_Lparting.nd rfl (Or.inl rfl) (pe_ix ix_q (pe_ix ix_q (pv 6) (pv 7) (fun _ _ => rfl)) (pe_int) (fun _ _ => rfl)))
        (pss_cons (ps_if (pt_cmpR op_ne (pe_cmpR op_inQ (pv 9) (pv 2) (by rfl)) (pe_cmpR op_inQ (pv 10) (pv 4) (by rfl)) (nomark _))
        (pss_one (ps_ret (pv 8)))
        (pss_nil))
        (pss_one (ps_for PassesOwn.never rfl (pi_range1 (by rfl) T.z_range (pa_cons (pe_callB call_len_str (by rfl) T.z_len PySem.boot_len (pa_cons (pv 0) pa_nil)) pa_nil)) (pg_name (i := 11) sc_Lparting.nd rfl (Or.inl rfl))
        (pss_cons (ps_set (i := 12) sc_Lparting.nd rfl (Or.inl rfl) (pe_tup (pa_cons (pe_c G_law_step (hr.mono (by decide)) T.g__law_step (pa_cons (pv 1) (pa_cons (pv 9) (pa_cons (pv 11) pa_nil)))) (pa_cons (pe_c G_law_step (hr.mono (by decide)) T.g__law_step (pa_cons (pv 3) (pa_cons (pv 10) (pa_cons (pv 11) pa_nil)))) pa_nil))))
          (pss_one (ps_if (pt_cmp (pc_dnotin hu (pv 12) (pv 5)) (by rfl))
          (pss_cons (ps_dput hu (pv 5) (pv 12) (pe_bl) rfl)
            (pss_one (ps_expr (pe_bm PySem.F.plainAttrs_list PySem.F.slot_list_append PySem.F.type_list_append mt_append (pv 6) (pa_cons (pe_tup (pa_cons (pe_op op_add_str (pv 8) (pe_ix ix_str (pv 0) (pv 11) (fun _ _ => rfl))) (pa_cons (pe_ix ix_q (pv 12) (pe_int) (fun _ _ => rfl)) (pa_cons (pe_ix ix_q (pv 12) (pe_int) (fun _ _ => rfl)) pa_nil)))) pa_nil)))))
          (pss_nil))))))))))
      (pss_nil))))
    (pss_one (ps_ret (pe_non)))))), ?_⟩
    refine fun S hS => ⟨by show 2 ≤ sizeLine; decide, fun t ht => ⟨t, kp (0, 0), rfl, upd_same, (by rw [upd_ne (ne_of_none upd_same ht)]; exact upd_same), ?_⟩⟩
    have e1 : Same H (upd (upd (upd H S (.dT [])) t (.tup [.int 0, .int 0])) S (.dT [(kp (0, 0), .bl true)])) := sm_mut (sm_laid (sm_new hS) ht) hS
    have hS2 : upd (upd (upd H S (.dT [])) t (.tup [.int 0, .int 0])) S (.dT [(kp (0, 0), .bl true)]) S = some (.dT [(kp (0, 0), .bl true)]) := upd_same
    generalize upd (upd (upd H S (.dT [])) t (.tup [.int 0, .int 0])) S (.dT [(kp (0, 0), .bl true)]) = H1 at e1 hS2
    refine ⟨by show 3 ≤ sizeLine; decide, fun t2 ht2 => ⟨by show 1 ≤ sizeLine; decide, fun U hU => ?_⟩⟩
    have fU : H U = none := (e1.trans (sm_new ht2)).free hU
    have nUS : U ≠ S := Ne.symm (ne_of_none (sm_new ht2 _ _ hS2) hU)
    have e2 : Same H (upd (upd H1 t2 (.tup [.str "", .int 0, .int 0])) U (.lst [.ref t2])) := e1.trans ((sm_new ht2).trans (sm_new hU))
    have hS3 : upd (upd H1 t2 (.tup [.str "", .int 0, .int 0])) U (.lst [.ref t2]) S = some (.dT [(kp (0, 0), .bl true)]) := (sm_new ht2).trans (sm_new hU) _ _ hS2
    have hU3 : upd (upd H1 t2 (.tup [.str "", .int 0, .int 0])) U (.lst [.ref t2]) U = some (.lst (([t2] : List Addr).map V.ref)) := upd_same
    have hQ3 : QAt l A B (upd (upd H1 t2 (.tup [.str "", .int 0, .int 0])) U (.lst [.ref t2])) [t2] [[]] := ⟨sm_new hU _ _ upd_same, trivial⟩
    generalize upd (upd H1 t2 (.tup [.str "", .int 0, .int 0])) U (.lst [.ref t2]) = H3 at e2 hS3 hU3 hQ3
    clear hU ht2 hS2 e1 ht
    have big : (A.length + 1) * (B.length + 1) ≤ 129 * 129 := Nat.mul_le_mul (by have := mA.few; omega) (by have := mB.few; omega)
    have ebd : ((xsA.length : Int) + 1) * ((xsB.length : Int) + 1) = (((A.length + 1) * (B.length + 1) : Nat) : Int) := by rw [hSAl, hSBl]; push_cast; rfl
    -- for turn in range(..)
    refine ⟨_, rfl, _, _, rfl, hSA.mono e2, (xsA.length : Int), 1, rfl, rfl, _, rfl, _, _, rfl, hSB.mono e2, (xsB.length : Int), 1, rfl, rfl, (xsA.length : Int) + 1, (xsB.length : Int) + 1, rfl, rfl, ?_, _, rfl, ?_, ?_, for_rng (n := (((xsA.length : Int) + 1) * ((xsB.length : Int) + 1)).toNat)
      (fun j σ H' => ∃ (v7 v8 v9 v10 v11 v12 : Option V) (kvs : List (List Key × V)) (ps : List Addr) (qs : List (List Nat)), σ = [some (.str l), some (.ref aA), some (.ref aE), some (.ref aB), some (.ref aF), some (.ref S), some (.ref U), v7, v8, v9, v10, v11, v12] ∧ Same H H' ∧
        H' S = some (.dT kvs) ∧ SeenD kvs (qs.map (prW A B)) ∧ H' U = some (.lst (ps.map V.ref)) ∧ QAt l A B H' ps qs ∧ BF (cs l).length A B EA EB qs j 0) ⟨_, _, _, _, _, _, _, [t2], [[]], rfl, e2, hS3, SeenD.one _ _, hU3, hQ3, BF.zero _ _ _ _ _⟩ ?_ ?_⟩
    · exact .inr (by rw [hSBl]; have := mB.few; constructor <;> omega)
    · rw [ebd]; omega
    · rw [ebd]; omega
    · rintro j σ' H4 hj ⟨v7, v8, v9, v10, v11, v12, kvs, ps, qs, rfl, e4, hS4, sd, hU4, hQ4, bf⟩
      have hql : ps.length = qs.length := hQ4.length
      refine ⟨_, rfl, _, rfl, _, _, rfl, .l hU4, _, _, rfl, rfl, _, rfl, ite2 (fun c => ?_) (fun c => ?_)⟩
      · have c' := of_decide_eq_true c
        rw [List.length_map, hql] at c'
        have hj2 : j < qs.length := by omega
        have hw := List.getElem?_eq_getElem hj2
        generalize qs[j] = wd at hw
        obtain ⟨pt, hpt, hT⟩ := All2.get hQ4 hw
        have hat : atI (ps.map V.ref) (j : Int) = some (.ref pt) := atI_nat (by rw [List.getElem?_map, hpt]; rfl)
        refine ⟨_, rfl, _, rfl, _, _, _, .ref pt, rfl, rfl, .l hU4, hat, _, _, _, _, rfl, rfl, .t hT, rfl, ?_⟩
        refine ⟨_, rfl, _, rfl, _, _, _, .ref pt, rfl, rfl, .l hU4, hat, _, _, _, _, rfl, rfl, .t hT, rfl, ?_⟩
        refine ⟨_, rfl, _, rfl, _, _, _, .ref pt, rfl, rfl, .l hU4, hat, _, _, _, _, rfl, rfl, .t hT, rfl, ?_⟩
        refine ⟨_, rfl, _, rfl, _, _, rfl, hEA.mono e4, rfl, flat_ints _, _, rfl, _, rfl, _, _, rfl, hEB.mono e4, rfl, flat_ints _, ?_⟩
        rw [if_neg (by decide), if_neg (by decide), inV_ints, inV_ints]
        have wok := bf.val wd (List.mem_of_getElem? hw)
        obtain ⟨rA0, rA1⟩ := run1_range mA wd 0 (by decide) (by have := mA.pos; omega) wok
        obtain ⟨rB0, rB1⟩ := run1_range mB wd 0 (by decide) (by have := mB.pos; omega) wok
        have hdf : (!decide (V.bl (decide ((prW A B wd).1 ∈ EA)) = V.bl (decide ((prW A B wd).2 ∈ EB)))) = df EA EB (prW A B wd) := by
          unfold df
          cases decide ((prW A B wd).1 ∈ EA) <;> cases decide ((prW A B wd).2 ∈ EB) <;> rfl
        refine ⟨rfl, _, rfl, ?_⟩
        rw [hdf]
        refine ite2 (fun hd => ⟨_, rfl, k _ (some wd) e4 (bf.found hw hd)⟩) (fun hd => ?_)
        have hsame : df EA EB (prW A B wd) = false := by simpa using hd
        refine ⟨_, rfl, l, rfl, ll, (l.length : Int), rfl, by omega, by rw [len_cs]; have := lo.four; omega, for_rng (n := ((l.length : Int)).toNat) (fun i σ H' => ∃ (v11 v12 : Option V) (kvs : List (List Key × V)) (ps : List Addr) (qs : List (List Nat)), σ = [some (.str l), some (.ref aA), some (.ref aE), some (.ref aB), some (.ref aF), some (.ref S), some (.ref U), some (.int (j : Nat)), some (.str (wt l wd)), some (.int (prW A B wd).1), some (.int (prW A B wd).2), v11, v12] ∧ Same H H' ∧
          H' S = some (.dT kvs) ∧ SeenD kvs (qs.map (prW A B)) ∧ H' U = some (.lst (ps.map V.ref)) ∧ QAt l A B H' ps qs ∧ qs[j]? = some wd ∧ BF (cs l).length A B EA EB qs j i) ⟨_, _, kvs, ps, qs, rfl, e4, hS4, sd, hU4, hQ4, hw, bf⟩ ?_ ?_⟩
        · clear hw hT hpt hU4 hQ4 sd hS4 bf hj2 c' c hql e4 hat
          rintro i σ2 H6 hi ⟨w11, w12, kvs, ps, qs, rfl, e6, hS6, sd, hU6, hQ6, hw, bf⟩
          have hi' : i < (cs l).length := by rw [len_cs] at hi; omega
          have hc' := List.getElem?_eq_getElem hi'
          generalize (cs l)[i] = ch at hc'
          have hql : ps.length = qs.length := hQ6.length
          have few := bf.few mA mB
          have hjl := (List.getElem?_eq_some_iff.mp hw).1
          -- pair = (step(..), step(..))
          refine ⟨_, rfl, _, rfl, _, rfl, aA, (cs l).length, A, EA, _, i, rfl, hRA.mono e6, mA, rA0, rA1, hi', _, rfl, _, rfl, _, rfl, aB, (cs l).length, B, EB, _, i, rfl, hRB.mono e6, mB, rB0, rB1, hi', by show 2 ≤ sizeLine; decide, fun pr hpr => ?_⟩
          have ek : prW A B (wd ++ [i]) = (stp A (prW A B wd).1 i, stp B (prW A B wd).2 i) := prW_snoc A B wd i
          have sn7 : Same H6 (upd H6 pr (.tup [.int (stp A (prW A B wd).1 i), .int (stp B (prW A B wd).2 i)])) := sm_new hpr
          have hp7 : upd H6 pr (.tup [.int (stp A (prW A B wd).1 i), .int (stp B (prW A B wd).2 i)]) pr = some (.tup ((kp (prW A B (wd ++ [i]))).map kV)) := by rw [upd_same, ek]; rfl
          have e7 := e6.trans sn7
          have hS7 := sn7 _ _ hS6
          have hU7 := sn7 _ _ hU6
          have hQ7 := hQ6.mono sn7
          refine ⟨_, rfl, _, rfl, S, _, rfl, DGet.t hS7 hp7, _, rfl, ite2 (fun c2 => ?_) (fun c2 => ?_)⟩
          · have hno : prW A B (wd ++ [i]) ∉ qs.map (prW A B) := by
              rw [sd.2] at c2
              intro z
              rw [decide_eq_true z] at c2; cases c2
            have bf2 := bf.new hw hi' hno
            have sd2 := sd.push (prW A B (wd ++ [i])) (.bl true)
            have hkl := sd.1
            rw [List.length_map] at hkl
            have hkz : kvs.length < sizeLine := Nat.lt_of_le_of_lt (by omega : _ ≤ 129 * 129) (by decide)
            have hthin := bf.thin j wd hw
            refine ⟨_, rfl, _, rfl, S, _, rfl, DPut.t hS7 hp7 hkz, ?_⟩
            have e8 := sm_mut (o := .dT (putK kvs (kp (prW A B (wd ++ [i]))) (.bl true))) e7 hS
            have hp8 : upd (upd H6 pr (.tup [.int (stp A (prW A B wd).1 i), .int (stp B (prW A B wd).2 i)])) S (.dT (putK kvs (kp (prW A B (wd ++ [i]))) (.bl true))) pr = some (.tup ((kp (prW A B (wd ++ [i]))).map kV)) := by
              rw [upd_ne (ne_of hp7 hS7 (by intro z; cases z))]; exact hp7
            have hU8 : upd (upd H6 pr (.tup [.int (stp A (prW A B wd).1 i), .int (stp B (prW A B wd).2 i)])) S (.dT (putK kvs (kp (prW A B (wd ++ [i]))) (.bl true))) U = some (.lst (ps.map V.ref)) := by rw [upd_ne nUS]; exact hU7
            have hQ8 := hQ7.upd (b := S) (o := .dT (putK kvs (kp (prW A B (wd ++ [i]))) (.bl true))) (fun ys z => by rw [hS7] at z; cases z)
            have hS8 : upd (upd H6 pr (.tup [.int (stp A (prW A B wd).1 i), .int (stp B (prW A B wd).2 i)])) S (.dT (putK kvs (kp (prW A B (wd ++ [i]))) (.bl true))) S = some (.dT (putK kvs (kp (prW A B (wd ++ [i]))) (.bl true))) := upd_same
            generalize upd (upd H6 pr (.tup [.int (stp A (prW A B wd).1 i), .int (stp B (prW A B wd).2 i)])) S (.dT (putK kvs (kp (prW A B (wd ++ [i]))) (.bl true))) = H8 at e8 hp8 hU8 hQ8 hS8
            refine ⟨_, rfl, .inl ⟨rfl, _, .of hU8⟩, _, rfl, _, rfl, _, rfl, l, (i : Int), ch, rfl, rfl, ll, atI_nat hc', _, ⟨#[ch]⟩, rfl, rfl, ?_, _, rfl, _, _, _, _, rfl, rfl, .t hp8, rfl, _, rfl, _, _, _, _, rfl, rfl, .t hp8, rfl, by show 3 ≤ sizeLine; decide, fun t9 ht9 => ?_⟩
            · rw [len_cs, len_cs, cs_wt, List.length_map]
              show _ + 1 ≤ sizeLine
              exact Nat.le_trans (by omega : _ ≤ 129 * 129 + 1) (by decide)
            · have hU9 := sm_new (o := .tup [.str (wt l wd ++ sg ch), kV (.inl (prW A B (wd ++ [i])).1), kV (.inl (prW A B (wd ++ [i])).2)]) ht9 _ _ hU8
              refine ⟨_, _, _, rfl, rfl, hU9, by rw [List.length_map, hql]; exact Nat.lt_of_le_of_lt (by omega : _ ≤ 129 * 129) (by decide), ?_⟩
              have sn9 := sm_new (o := .tup [.str (wt l wd ++ sg ch), kV (.inl (prW A B (wd ++ [i])).1), kV (.inl (prW A B (wd ++ [i])).2)]) ht9
              have hQ9 := hQ8.mono sn9
              refine ⟨_, _, putK kvs (kp (prW A B (wd ++ [i]))) (.bl true), ps ++ [t9], qs ++ [wd ++ [i]], rfl, sm_mut (e8.trans sn9) fU, ?_, ?_, ?_, ?_, get_app hw _, bf2⟩
              · rw [upd_ne (Ne.symm nUS)]; exact sn9 _ _ hS8
              · rw [List.map_append]; exact sd2
              · rw [upd_same, List.map_append]; rfl
              · refine All2.snoc (hQ9.upd (fun ys z => by rw [hU9] at z; cases z)) ?_
                rw [upd_ne (Ne.symm (ne_of_none hU8 ht9)), upd_same, wt_snoc hc']; rfl
          · have hyes : prW A B (wd ++ [i]) ∈ qs.map (prW A B) := by
              refine Classical.byContradiction fun z => c2 ?_
              rw [sd.2, decide_eq_false z]; rfl
            exact ⟨_, _, kvs, ps, qs, rfl, e7, hS7, sd, hU7, hQ7, hw, bf.old hw hyes⟩
        · rintro σ2 H5 ⟨w11, w12, kvs, ps, qs, rfl, e5, hS5, sd, hU5, hQ5, hw, bf⟩
          have hsz : ((l.length : Int)).toNat = (cs l).length := by rw [len_cs]; omega
          rw [hsz] at bf
          exact ⟨_, _, _, _, _, _, kvs, ps, qs, rfl, e5, hS5, sd, hU5, hQ5, bf.next hw hsame⟩
      · have hl : qs.length ≤ j := by
          have : ¬ (j : Int) < (ps.map V.ref).length := fun z => c (decide_eq_true z)
          rw [List.length_map, hql] at this
          omega
        exact ⟨_, _, _, _, _, _, kvs, ps, qs, rfl, e4, hS4, sd, hU4, hQ4, bf.skip hl⟩
    · rintro σ' H4 ⟨v7, v8, v9, v10, v11, v12, kvs, ps, qs, rfl, e4, hS4, sd, hU4, hQ4, bf⟩
      have few := bf.few mA mB
      exact k _ none e4 (bf.none (by rw [ebd]; omega))
end
end Fy

set_option Elab.async false
set_option linter.all false
set_option maxRecDepth 100000
set_option maxHeartbeats 4000000
namespace Fy
open PySem PySem.Spec PyProof.Rows L2
theorem sqL_mono {K : PySem.W.Frag} {H H' : Hp} {a : Addr} {xs : List V} (h : SqL K H a xs) (e : Same H H') : SqL K H' a xs := by
  rcases h with (h | ⟨o, h⟩) | h
  · exact .inl (.inl (e _ _ h))
  · exact .inl (.inr ⟨o, e _ _ h⟩)
  · exact .inr h
theorem FinR.but {H H' : Hp} {qs : List Addr} {rs : List (List Int)} {st : Addr} (h : FinR H qs rs) (b : But st H H') (n : ∀ q ∈ qs, q ≠ st) : FinR H' qs rs := All2.imp_mem (fun q r hq z => b _ _ (n q hq) z) h
/-- a row in the making at W, finished rows at qs, their list at R, draws from st -/
structure LRow (H : Hp) (st ca R W : Addr) (qs : List Addr) (rs : List (List Int)) (n j : Nat) (H' : Hp) (r : List Int) : Prop where
  bt : But st H H'
  ow : Own H' st ca
  hR : H' R = some (.lst (qs.map V.ref))
  fin : FinR H' qs rs
  hW : H' W = some (.lst (r.map V.int))
  len : r.length = j
  rng : ∀ x ∈ r, -1 ≤ x ∧ x < (n : Int)
section
variable {H : Hp} {st ca R W : Addr} {qs : List Addr} {rs : List (List Int)} {n j : Nat} {H' H2 : Hp} {r : List Int}
theorem LRow.draw (h : LRow H st ca R W qs rs n j H' r) (b : But st H' H2) (o : Own H2 st ca) (nR : R ≠ st) (nW : W ≠ st) (nq : ∀ q ∈ qs, q ≠ st) : LRow H st ca R W qs rs n j H2 r :=
  ⟨h.bt.trans b, o, b _ _ nR h.hR, h.fin.but b nq, b _ _ nW h.hW, h.len, h.rng⟩
theorem But.mut {G H : Hp} {st p : Addr} {o : HO} (b : But st G H) (n : G p = none) : But st G (L2.upd H p o) := fun c u nc hc => by
  rw [upd_ne (by rintro rfl; rw [n] at hc; cases hc)]; exact b c u nc hc
theorem LRow.put (h : LRow H st ca R W qs rs n j H' r) (fW : H W = none) (nWs : W ≠ st) (nWc : W ≠ ca) (nWR : W ≠ R) (nWq : ∀ q ∈ qs, q ≠ W) {z : Int} (z0 : -1 ≤ z) (z1 : z < (n : Int)) : LRow H st ca R W qs rs n (j + 1) (upd H' W (.lst (r.map V.int ++ [.int z]))) (r ++ [z]) :=
  ⟨h.bt.mut fW, h.ow.upd nWs nWc, by rw [upd_ne (Ne.symm nWR)]; exact h.hR, h.fin.upd nWq, by rw [upd_same, List.map_append]; rfl, by rw [List.length_append, h.len]; rfl, fun x hx => by
    rcases List.mem_append.mp hx with y | y
    · exact h.rng x y
    · rw [List.mem_singleton.mp y]; exact ⟨z0, z1⟩⟩
end
theorem imod_range {a b : Int} (hb : 0 < b) : 0 ≤ a.fmod b ∧ a.fmod b < b := by
  rw [Int.fmod_eq_emod_of_nonneg _ (by omega)]
  exact ⟨Int.emod_nonneg _ (by omega), Int.emod_lt_of_pos _ hb⟩
section
variable {P : Program} {w : World} {K : PySem.W.Frag} {mg : Str → Option Value} {base : Heap}
abbrev N_Lstart : List Str := ["script", "cells", "cell"]
theorem sc_Lstart : FnScope N_Lstart ["script"] (defScope s_Lstart) := ⟨rfl, rfl, rfl, by decide +kernel, rfl, by decide +kernel, by decide +kernel⟩
def spLstart (K : PySem.W.Frag) : Sp := fun vs H Q _ => ∃ (a : Addr) (ns : List Int), vs = [.ref a] ∧ SqL K H a (ns.map V.int) ∧ ns.length ≤ 1000 ∧ ∀ H' st ca, Same H H' → H st = none → Own H' st ca → Q (.ref st) H'
theorem ok_Lstart (T : Tx K mg) : Has P w K mg base CX0 1 (He.ga K "_law_start") ["script"] (spLstart K) := by
  refine has_of T.f_Lstart sc_Lstart (fun _ _ _ _ _ _ us hl => match us, hl with | [_], _ => rfl) (fun vs H Q E h => ?_) (fun cdv A outer s H vs Q E hr h => ?_)
  · obtain ⟨a, ns, rfl, _⟩ := h
    rfl
  · obtain ⟨a, ns, rfl, hS, few, k⟩ := h
    refine ⟨_, (pss_cons (ps_setLc (i := 1) (own := [("cell", 2)]) rfl sc_Lstart.nd rfl rfl (sw_true rfl rfl rfl (by decide +kernel)) (pi_list (pv 0)) (blkOk_by (own := [("cell", 2)]) (N := N_Lstart) (sc := defScope s_Lstart) (by decide +kernel)) (fun _ _ _ _ _ => pg_name (i := 2) sc_Lstart.nd rfl (Or.inl rfl)) (fun _ _ _ _ _ => pts_nil) (fun _ _ _ _ _ => pe_callB call_abs (by rfl) T.z_abs (by decide +kernel) (pa_cons (pv 2) pa_nil)))
    (Evl.pss_cut (ps_if (pt_cmpR op_eq (pe_callB call_lenQ (by rfl) T.z_len PySem.boot_len (pa_cons (pv 1) pa_nil)) (pe_int) (nomark _))
    (pss_one (ps_set (i := 1) sc_Lstart.nd rfl (Or.inl rfl) (pe_lst (pa_cons (pe_int) pa_nil))))
    (pss_nil))
    (pss_one (ps_ret (pe_lst (pa_cons (pv 1) (pa_cons (pe_int) (pa_cons (pe_int) (pa_cons (pe_int) pa_nil))))))))), ?_⟩
    refine ⟨_, rfl, a, rfl, ⟨_, hS⟩, fun D hD => lc_list (K := K) (xs := ns.map V.int) (fun i H' => Same H H' ∧ ∃ cells : List Int, H' D = some (.lst (cells.map V.int)) ∧ cells.length = i ∧ ∀ c ∈ cells, 0 ≤ c) ⟨sm_new hD, [], upd_same, rfl, fun c hc => by cases hc⟩ (fun i H' _ p => sqL_mono hS p.1) ?_ ?_⟩
    · rintro i v H' hi ⟨e, cells, h1, hl, h0⟩
      obtain ⟨n, hn, rfl⟩ := int_item hi
      have hil := (List.getElem?_eq_some_iff.mp hn).1
      refine ⟨rfl, _, rfl, n, rfl, _, h1, by rw [List.length_map, hl]; exact Nat.lt_of_lt_of_le (by omega : i < 1000) (by decide), sm_mut e hD, cells ++ [if n < 0 then -n else n], by rw [upd_same, List.map_append]; rfl, by rw [List.length_append, hl]; rfl, fun c hc => ?_⟩
      rcases List.mem_append.mp hc with z | z
      · exact h0 c z
      · rw [List.mem_singleton.mp z]; split <;> omega
    · rintro H1 ⟨e, cells, h1, hl, h0⟩
      refine ⟨fun σ' H' => ∃ c cells, σ' = [some (.ref a), some (.ref c), none] ∧ Same H H' ∧ H' c = some (.lst ((cells : List Int).map V.int)) ∧ cells ≠ [] ∧ ∀ c ∈ cells, 0 ≤ c, ?_, ?_⟩
      · refine ⟨_, rfl, _, _, rfl, .l h1, rfl, _, rfl, ite2 (fun c => ?_) (fun c => ?_)⟩
        · refine ⟨by show 1 ≤ sizeLine; decide, fun c hc => ⟨c, [0], rfl, e.trans (sm_new hc), upd_same, by simp, fun x hx => ?_⟩⟩
          rw [List.mem_singleton.mp hx]; decide
        · refine ⟨D, cells, rfl, e, h1, ?_, h0⟩
          rintro rfl
          exact c (by simp)
      · rintro σ' H' ⟨c, cells, rfl, e, h1, hne, h0⟩
        refine ⟨_, rfl, by show 4 ≤ sizeLine; decide, fun st hst => k _ st c (e.trans (sm_new hst)) (e.free hst) ⟨cells, 0, 0, 0, upd_same, sm_new hst _ _ h1, hne, by decide, by decide, by decide, h0⟩⟩
abbrev N_Lrows : List Str := ["state", "letters", "size", "rows", "k", "row", "letter", "choice"]
theorem sc_Lrows : FnScope N_Lrows ["state", "letters", "size"] (defScope s_Lrows) := ⟨rfl, rfl, rfl, by decide +kernel, rfl, by decide +kernel, by decide +kernel⟩
def spLrows : Sp := fun vs H Q _ => ∃ (st ca : Addr) (l : Str) (n : Nat), vs = [.ref st, .str l, .int (n : Nat)] ∧ Own H st ca ∧ LOk l ∧ 0 < n ∧ n ≤ 128 ∧
  ∀ H' p rows, But st H H' → Own H' st ca → p ≠ st → Rows (hid st H') p rows → rows.length = n → (∀ r ∈ rows, r.length = (cs l).length ∧ ∀ x ∈ r, -1 ≤ x ∧ x < n) → Q (.ref p) H'
theorem ok_Lrows (T : Tx K mg) : Has P w K mg base CX0 2 (He.ga K "_law_rows") ["state", "letters", "size"] spLrows := by
  have G_law_next := ok_Lnext (P := P) (w := w) (base := base) T
  refine has_of T.f_Lrows sc_Lrows (fun _ _ _ _ _ _ us hl => match us, hl with | [_, _, _], _ => rfl) (fun vs H Q E h => ?_) (fun cdv A outer s H vs Q E hr h => ?_)
  · obtain ⟨st, ca, l, n, rfl, _⟩ := h
    rfl
  · obtain ⟨st, ca, l, n, rfl, so, lo, n0, n1, k⟩ := h
    have l4 := lo.four
    refine ⟨_, (pss_cons (ps_set (i := 3) sc_Lrows.nd rfl (Or.inl rfl) (pe_lst pa_nil))
    (pss_cons (ps_for PassesOwn.never rfl (pi_range1 (by rfl) T.z_range (pa_cons (pv 2) pa_nil)) (pg_name (i := 4) sc_Lrows.nd rfl (Or.inl rfl))
    (pss_cons (ps_set (i := 5) sc_Lrows.nd rfl (Or.inl rfl) (pe_lst pa_nil))
      (pss_cons (ps_for PassesOwn.never rfl (pi_str (pv 1)) (pg_name (i := 6) sc_Lrows.nd rfl (Or.inl rfl))
      (pss_cons (ps_set (i := 7) sc_Lrows.nd rfl (Or.inl rfl) (pe_c G_law_next (hr.mono (by decide)) T.g__law_next (pa_cons (pv 0) (pa_cons (pe_int) pa_nil))))
        (pss_one (ps_if (pt_cmpR op_eq (pv 7) (pe_int) (nomark _))
        (pss_one (ps_expr (pe_bm PySem.F.plainAttrs_list PySem.F.slot_list_append PySem.F.type_list_append mt_append (pv 5) (pa_cons (pe_un un_neg (pe_int)) pa_nil))))
        (pss_one (ps_if (pt_cmpR op_eq (pv 7) (pe_int) (nomark _))
          (pss_one (ps_expr (pe_bm PySem.F.plainAttrs_list PySem.F.slot_list_append PySem.F.type_list_append mt_append (pv 5) (pa_cons (pe_op op_modN (pe_callTy call_intI (by rfl) T.z_int (by decide +kernel) (pa_cons (pe_op op_add (pv 4) (pe_int)) pa_nil)) (pv 2)) pa_nil))))
          (pss_one (ps_expr (pe_bm PySem.F.plainAttrs_list PySem.F.slot_list_append PySem.F.type_list_append mt_append (pv 5) (pa_cons (pe_c G_law_next (hr.mono (by decide)) T.g__law_next (pa_cons (pv 0) (pa_cons (pv 2) pa_nil))) pa_nil))))))))))
      (pss_one (ps_expr (pe_bm PySem.F.plainAttrs_list PySem.F.slot_list_append PySem.F.type_list_append mt_append (pv 3) (pa_cons (pv 5) pa_nil)))))))
    (pss_one (ps_ret (pv 3))))), ?_⟩
    refine ⟨Nat.zero_le _, fun R hR => ?_⟩
    obtain ⟨nRs, nRc⟩ := so.new hR
    have hgR : hid st H R = none := by rw [hid_ne nRs]; exact hR
    refine ⟨_, rfl, (n : Int), rfl, by omega, by omega, for_rng (n := ((n : Int)).toNat) (fun i σ H' => ∃ (v4 v5 v6 v7 : Option V) (qs : List Addr) (rs : List (List Int)), σ = [some (.ref st), some (.str l), some (.int (n : Nat)), some (.ref R), v4, v5, v6, v7] ∧ But st H H' ∧ Own H' st ca ∧ H' R = some (.lst (qs.map V.ref)) ∧ FinR H' qs rs ∧ (∀ q ∈ qs, q ≠ st ∧ q ≠ R) ∧
      rs.length = i ∧ ∀ r ∈ rs, r.length = (cs l).length ∧ ∀ x ∈ r, -1 ≤ x ∧ x < (n : Int)) ⟨_, _, _, _, [], [], rfl, But.of_same (sm_new hR), so.mono (sm_new hR), upd_same, trivial, (fun q hq => by cases hq), rfl, fun r hr => by cases hr⟩ ?_ ?_⟩
    · rintro i σ' H1 hi ⟨v4, v5, v6, v7, qs, rs, rfl, bt, ow, hR1, fin, qn, rl, rok⟩
      have hi' : i < n := by omega
      have hql := fin.length
      -- row = []
      refine ⟨Nat.zero_le _, fun W hW => ?_⟩
      obtain ⟨nWs, nWc⟩ := ow.new hW
      have nWR : W ≠ R := Ne.symm (ne_of_none hR1 hW)
      have nWq := fin.new hW
      have fW : H W = none := by
        cases z : H W with
        | none => rfl
        | some o => rw [bt W o nWs z] at hW; cases hW
      refine ⟨_, rfl, l, rfl, for_it walk_str (fun j σ H' => ∃ (v6 v7 : Option V) (r : List Int), σ = [some (.ref st), some (.str l), some (.int (n : Nat)), some (.ref R), some (.int (i : Nat)), some (.ref W), v6, v7] ∧ LRow H st ca R W qs rs n j H' r)
        ⟨_, _, [], rfl, bt.trans (But.of_same (sm_new hW)), ow.mono (sm_new hW), sm_new hW _ _ hR1, fin.upd nWq, upd_same, rfl, fun x hx => by cases hx⟩ (fun _ _ _ _ _ => trivial) ?_ ?_⟩
      · rintro j v σ2 H2 H3 hj ⟨w6, w7, r, rfl, L⟩ ⟨e3, c, hc, rfl⟩
        subst e3
        have hj4 : j < 4 := by have : l.cps.size = (cs l).length := by simp
                               omega
        have nqs : ∀ q ∈ qs, q ≠ st := fun q hq => (qn q hq).1
        have rz : ∀ {H5 r5}, LRow H st ca R W qs rs n j H5 r5 → (r5.map V.int).length < sizeLine := fun L5 => by
          rw [List.length_map, L5.len]; exact Nat.lt_of_lt_of_le hj4 (by decide)
        refine ⟨_, rfl, st, 5, ca, rfl, L.ow, by decide, by decide, fun q H4 q0 q1 ow4 b4 => ?_⟩
        have L4 := L.draw b4 ow4 nRs nWs nqs
        refine ⟨_, rfl, rfl, _, rfl, ite2 (fun c1 => ?_) (fun c1 => ?_)⟩
        · exact ⟨_, rfl, .inl ⟨rfl, _, .of L4.hW⟩, _, rfl, _, _, _, rfl, rfl, L4.hW, rz L4, _, _, _, rfl, L4.put fW nWs nWc nWR nWq (by decide) (by omega)⟩
        · refine ⟨_, rfl, rfl, _, rfl, ite2 (fun c2 => ?_) (fun c2 => ?_)⟩
          · have hm := imod_range (a := (i : Int) + 1) (b := (n : Int)) (by omega)
            exact ⟨_, rfl, .inl ⟨rfl, _, .of L4.hW⟩, _, rfl, _, _, rfl, rfl, _, rfl, _, rfl, _, _, rfl, rfl, (by show (n : Int) ≠ 0; omega), _, _, _, rfl, rfl, L4.hW, rz L4, _, _, _, rfl, L4.put fW nWs nWc nWR nWq (by omega) hm.2⟩
          · refine ⟨_, rfl, .inl ⟨rfl, _, .of L4.hW⟩, _, rfl, _, rfl, st, (n : Int), ca, rfl, L4.ow, by omega, by omega, fun q2 H5 q20 q21 ow5 b5 => ?_⟩
            have L5 := L4.draw b5 ow5 nRs nWs nqs
            exact ⟨_, _, _, rfl, rfl, L5.hW, rz L5, _, _, _, rfl, L5.put fW nWs nWc nWR nWq (by omega) q21⟩
      · rintro σ2 H2 ⟨w6, w7, r, rfl, L⟩
        have hsz : l.cps.size = (cs l).length := by simp
        have hrl := L.len
        rw [hsz] at hrl
        refine ⟨_, rfl, .inl ⟨rfl, _, .of L.hR⟩, _, rfl, _, _, _, rfl, rfl, L.hR, by rw [List.length_map, hql, rl]; exact Nat.lt_of_lt_of_le (by omega : i < 1000) (by decide), _, _, _, _, qs ++ [W], rs ++ [r], rfl, L.bt.mut hR, L.ow.upd nRs nRc, by rw [upd_same, List.map_append]; rfl, ?_, ?_, by rw [List.length_append, rl]; rfl, ?_⟩
        · exact All2.snoc (L.fin.upd fun q hq => (qn q hq).2) (by rw [upd_ne nWR]; exact L.hW)
        · intro q hq
          rcases List.mem_append.mp hq with y | y
          · exact qn q y
          · rw [List.mem_singleton.mp y]; exact ⟨nWs, nWR⟩
        · intro r' hr'
          rcases List.mem_append.mp hr' with y | y
          · exact rok r' y
          · rw [List.mem_singleton.mp y]; exact ⟨hrl, L.rng⟩
    · rintro σ' H1 ⟨v4, v5, v6, v7, qs, rs, rfl, bt, ow, hR1, fin, qn, rl, rok⟩
      refine ⟨_, rfl, k _ R rs bt ow nRs ⟨qs, .l (by rw [hid_ne nRs]; exact hR1), All2.imp_mem (fun q r hq z => .l (by rw [hid_ne (qn q hq).1]; exact z)) fin⟩ (by omega) rok⟩
end
end Fy

set_option Elab.async false
set_option linter.all false
set_option maxRecDepth 100000
set_option maxHeartbeats 4000000
namespace Fy
open PySem PySem.Spec PyProof.Rows L2
theorem But.free {G H : Hp} {st b : Addr} (h : But st G H) (n : b ≠ st) (e : H b = none) : G b = none := by
  cases z : G b with
  | none => rfl
  | some o => rw [h b o n z] at e; cases e
theorem hid_upd {H : Hp} {st D : Addr} {o : HO} (n : D ≠ st) : hid st (upd H D o) = upd (hid st H) D o := by
  funext b
  by_cases e : b = st
  · subst e; rw [hid_at, upd_ne (Ne.symm n), hid_at]
  · rw [hid_ne e]
    by_cases d : b = D
    · subst d; rw [upd_same, upd_same]
    · rw [upd_ne d, upd_ne d, hid_ne e]
theorem hid_mut {G H : Hp} {st D : Addr} {o : HO} (e : Same G (hid st H)) (n : D ≠ st) (g : G D = none) : Same G (hid st (upd H D o)) := by rw [hid_upd n]; exact sm_mut e g
theorem hid_none {H : Hp} {st D : Addr} (n : H D = none) : hid st H D = none := by
  unfold hid; split
  · rfl
  · exact n
theorem PairAt.mono {H H' : Hp} {p : Addr} {rows : List (List Int)} {ends : List Int} (h : PairAt H p rows ends) (e : Same H H') : PairAt H' p rows ends := let ⟨a, b, h1, h2, h3⟩ := h; ⟨a, b, e _ _ h1, h2.mono e, e _ _ h3⟩
section
variable {P : Program} {w : World} {K : PySem.W.Frag} {mg : Str → Option Value} {base : Heap}
abbrev N_Lhidden : List Str := ["state", "letters", "size", "rows", "share", "k"]
theorem sc_Lhidden : FnScope N_Lhidden ["state", "letters"] (defScope s_Lhidden) := ⟨rfl, rfl, rfl, by decide +kernel, rfl, by decide +kernel, by decide +kernel⟩
def spLhidden : Sp := fun vs H Q _ => ∃ (st ca : Addr) (l : Str), vs = [.ref st, .str l] ∧ Own H st ca ∧ LOk l ∧ ∀ H' p rows ends, But st H H' → Own H' st ca → PairAt (hid st H') p rows ends → MOk (cs l).length rows ends → Q (.ref p) H'
theorem ok_Lhidden (T : Tx K mg) : Has P w K mg base CX0 3 (He.ga K "_law_hidden") ["state", "letters"] spLhidden := by
  have G_law_next := ok_Lnext (P := P) (w := w) (base := base) T
  have G_law_rows := ok_Lrows (P := P) (w := w) (base := base) T
  refine has_of T.f_Lhidden sc_Lhidden (fun _ _ _ _ _ _ us hl => match us, hl with | [_, _], _ => rfl) (fun vs H Q E h => ?_) (fun cdv A outer s H vs Q E hr h => ?_)
  · obtain ⟨st, ca, l, rfl, _⟩ := h
    rfl
  · obtain ⟨st, ca, l, rfl, so, lo, k⟩ := h
    refine ⟨_, (pss_cons (ps_set (i := 2) sc_Lhidden.nd rfl (Or.inl rfl) (pe_op op_add (pe_int) (pe_c G_law_next (hr.mono (by decide)) T.g__law_next (pa_cons (pv 0) (pa_cons (pe_int) pa_nil)))))
    (Evl.pss_cut (ps_if (pt_cmpR op_eq (pe_c G_law_next (hr.mono (by decide)) T.g__law_next (pa_cons (pv 0) (pa_cons (pe_int) pa_nil))) (pe_int) (nomark _))
    (pss_one (ps_set (i := 2) sc_Lhidden.nd rfl (Or.inl rfl) (pe_op op_add (pe_int) (pe_c G_law_next (hr.mono (by decide)) T.g__law_next (pa_cons (pv 0) (pa_cons (pe_int) pa_nil))))))
    (pss_nil))
    (pss_cons (ps_set (i := 3) sc_Lhidden.nd rfl (Or.inl rfl) (pe_c G_law_rows (hr.mono (by decide)) T.g__law_rows (pa_cons (pv 0) (pa_cons (pv 1) (pa_cons (pv 2) pa_nil)))))
    (pss_cons (ps_set (i := 4) sc_Lhidden.nd rfl (Or.inr rfl) (pe_op op_add (pe_int) (pe_c G_law_next (hr.mono (by decide)) T.g__law_next (pa_cons (pv 0) (pa_cons (pe_int) pa_nil)))))
    (pss_one (ps_ret (pe_tup (pa_cons (pv 3) (pa_cons (pe_lc (own := [("k", 5)]) rfl sc_Lhidden.nd (pi_range1 (by rfl) T.z_range (pa_cons (pv 2) pa_nil)) (blkOk_by (own := [("k", 5)]) (N := N_Lhidden) (sc := defScope s_Lhidden) (by decide +kernel)) (fun _ _ _ _ _ => pg_name (i := 5) sc_Lhidden.nd rfl (Or.inl rfl)) (fun _ _ _ _ _ => pts_one (pt_cmpR op_eq (pe_c G_law_next (hr.mono (by decide)) T.g__law_next (pa_cons (pv 0) (pa_cons (pv 4) pa_nil))) (pe_int) (nomark _))) (fun _ _ _ _ _ => pv 5)) pa_nil))))))))), ?_⟩
    refine ⟨_, rfl, st, 6, ca, rfl, so, by decide, by decide, fun r H1 r0 r1 ow1 b1 => ⟨_, _, rfl, rfl, ?_⟩⟩
    refine ⟨fun σ' H' => ∃ n : Nat, σ' = [some (.ref st), some (.str l), some (.int (n : Nat)), none, none, none] ∧ 0 < n ∧ n ≤ 128 ∧ But st H H' ∧ Own H' st ca, ?_, ?_⟩
    · refine ⟨_, rfl, st, 16, ca, rfl, ow1, by decide, by decide, fun r2 H2 r20 r21 ow2 b2 => ⟨rfl, _, rfl, ite2 (fun c => ?_) (fun c => ?_)⟩⟩
      · refine ⟨_, rfl, st, 29, ca, rfl, ow2, by decide, by decide, fun r3 H3 r30 r31 ow3 b3 => ⟨_, _, rfl, rfl, (100 + r3).toNat, ?_, by omega, by omega, (b1.trans b2).trans b3, ow3⟩⟩
        rw [show (((100 + r3).toNat : Nat) : Int) = 100 + r3 by omega]; rfl
      · refine ⟨(1 + r).toNat, ?_, by omega, by omega, b1.trans b2, ow2⟩
        rw [show (((1 + r).toNat : Nat) : Int) = 1 + r by omega]; rfl
    · rintro σ' H2 ⟨n, rfl, n0, n1, b2, ow2⟩
      refine ⟨_, rfl, _, rfl, _, rfl, st, ca, l, n, rfl, ow2, lo, n0, n1, fun H3 p rows b3 ow3 np hR rl rok => ?_⟩
      refine ⟨_, rfl, st, 2, ca, rfl, ow3, by decide, by decide, fun r4 H4 r40 r41 ow4 b4 => ⟨_, _, rfl, rfl, ?_⟩⟩
      have hR4 := hR.mono b4.hid
      have bt4 := (b2.trans b3).trans b4
      refine ⟨_, rfl, _, rfl, (n : Int), rfl, by omega, by omega, fun D hD => lc_rng (n := ((n : Int)).toNat) (fun i H' => But st H H' ∧ Own H' st ca ∧ Same (hid st H4) (hid st H') ∧ ∃ es : List Int, H' D = some (.lst (es.map V.int)) ∧ es.Pairwise (· < ·) ∧ es.length ≤ i ∧ ∀ e ∈ es, 0 ≤ e ∧ e < (i : Int)) ?_ ?_ ?_⟩
      · exact ⟨bt4.trans (But.of_same (sm_new hD)), ow4.mono (sm_new hD), (But.of_same (sm_new hD)).hid, [], upd_same, List.Pairwise.nil, Nat.le_refl _, fun e he => by cases he⟩
      all_goals obtain ⟨nDs, nDc⟩ := ow4.new hD
      · rintro i H5 hi ⟨b5, ow5, hR5, es, hes, srt, el, ein⟩
        have hD4 := bt4.free nDs hD
        refine ⟨rfl, _, rfl, _, rfl, st, 2 + r4, ca, rfl, ow5, by omega, by omega, fun q H6 q0 q1 ow6 b6 => ⟨rfl, _, rfl, ite2 (fun c => ?_) (fun c => ?_)⟩⟩
        · have hes6 := b6 _ _ nDs hes
          refine ⟨_, rfl, _, hes6, by rw [List.length_map]; exact Nat.lt_of_le_of_lt (by omega : _ ≤ 1000) (by decide), (b5.trans b6).mut hD4, ow6.upd nDs nDc, hid_mut (hR5.trans b6.hid) nDs (hid_none hD), es ++ [(i : Int)], by rw [upd_same, List.map_append]; rfl, ?_, ?_, fun e he => ?_⟩
          · refine List.pairwise_append.mpr ⟨srt, List.pairwise_singleton _ _, fun a ha b hb => ?_⟩
            rw [List.mem_singleton.mp hb]
            exact (ein a ha).2
          · rw [List.length_append]; show es.length + 1 ≤ i + 1; omega
          · rcases List.mem_append.mp he with z | z
            · have := ein e z; omega
            · rw [List.mem_singleton.mp z]; omega
        · exact ⟨b5.trans b6, ow6, hR5.trans b6.hid, es, b6 _ _ nDs hes, srt, by omega, fun e he => by have := ein e he; omega⟩
      · rintro H5 ⟨b5, ow5, hR5, es, hes, srt, el, ein⟩
        refine ⟨by show 2 ≤ sizeLine; decide, fun q hq => k _ q rows es (b5.trans (But.of_same (sm_new hq))) (ow5.mono (sm_new hq)) ⟨p, D, ?_, ((hR4.mono hR5).mono (But.of_same (sm_new hq)).hid), ?_⟩ ⟨by omega, by omega, fun r hr => ⟨(rok r hr).1, fun x hx => by have := (rok r hr).2 x hx; omega⟩, srt, fun e he => by have := ein e he; omega⟩⟩
        · rw [hid_ne (ow5.new hq).1]; exact upd_same
        · rw [hid_ne nDs]; exact sm_new hq _ _ hes
end
end Fy

set_option Elab.async false
set_option linter.all false
set_option maxRecDepth 100000
set_option maxHeartbeats 4000000
namespace Fy
open PySem PySem.Spec PyProof.Rows L2
theorem bad_first {l x : Str} : ∀ (n : Nat), (∃ (i : Nat) (c : Nat), i < n ∧ (cs x)[i]? = some c ∧ c ∉ cs l) → ∃ i, BadAt l x i
  | 0, h => by obtain ⟨i, c, h, _⟩ := h; omega
  | n + 1, h => by
    by_cases z : ∃ (i : Nat) (c : Nat), i < n ∧ (cs x)[i]? = some c ∧ c ∉ cs l
    · exact bad_first n z
    · obtain ⟨i, c, hi, hc, hb⟩ := h
      have e : i = n := by
        rcases Nat.lt_succ_iff_lt_or_eq.mp hi with y | y
        · exact absurd ⟨i, c, y, hc, hb⟩ z
        · exact y
      subst e
      exact ⟨i, c, hc, hb, fun j c' hj hc' => Classical.byContradiction fun y => z ⟨j, c', hj, hc', y⟩⟩
theorem bad_of {l x : Str} {c : Nat} (h : c ∈ cs x) (hb : c ∉ cs l) : ∃ i, BadAt l x i := by
  obtain ⟨i, hi⟩ := List.getElem?_of_mem h
  exact bad_first (cs x).length ⟨i, c, (List.getElem?_eq_some_iff.mp hi).1, hi, hb⟩
theorem BadAt.not {l x : Str} {i : Nat} (h : BadAt l x i) : ¬ WOk l x := fun w => by
  obtain ⟨c, hc, hb, _⟩ := h
  exact hb (w c (List.mem_of_getElem? hc))
theorem not_ok {l x : Str} (h : ¬ WOk l x) : ∃ i, BadAt l x i := by
  have : ∃ c, c ∈ cs x ∧ c ∉ cs l := Classical.byContradiction fun z => h fun c hc => Classical.byContradiction fun y => z ⟨c, hc, y⟩
  obtain ⟨c, hc, hb⟩ := this
  exact bad_of hc hb
/-- signs that stand at small places -/
def StrS (x : Str) : Prop := ∀ c ∈ cs x, c < 200
theorem WOk.strS {l x : Str} (lo : LOk l) (h : WOk l x) : StrS x := fun c hc => by have := lo.small c (h c hc); omega
theorem StrS.ok {x : Str} (h : StrS x) : PyData.strOk x = true := by
  unfold PyData.strOk
  rw [Array.all_eq_true]
  intro i hi
  have := h x.cps[i] (by show x.cps[i] ∈ x.cps.toList; exact Array.getElem_mem_toList hi)
  exact decide_eq_true (by omega)
theorem cs_app (a b : Str) : cs (a ++ b) = cs a ++ cs b := by
  show (a.cps ++ b.cps).toList = _
  simp [cs]
section
variable {P : Program} {w : World} {K : PySem.W.Frag} {mg : Str → Option Value} {base : Heap}
abbrev N_Lspoilt : List Str := ["state", "letters", "word", "signs", "turn", "at", "sign"]
theorem sc_Lspoilt : FnScope N_Lspoilt ["state", "letters", "word"] (defScope s_Lspoilt) := ⟨rfl, rfl, rfl, by decide +kernel, rfl, by decide +kernel, by decide +kernel⟩
def spLspoilt : Sp := fun vs H Q _ => ∃ (st ca : Addr) (l x : Str), vs = [.ref st, .str l, .str x] ∧ Own H st ca ∧ LOk l ∧ x.cps.size ≤ 100 ∧ StrS x ∧ ∀ H' y, But st H H' → Own H' st ca → (∃ i, BadAt l y i) → y.cps.size ≤ 500 → StrS y → Q (.str y) H'
theorem ok_Lspoilt (T : Tx K mg) : Has P w K mg base CX0 2 (He.ga K "_law_spoilt") ["state", "letters", "word"] spLspoilt := by
  have G_law_next := ok_Lnext (P := P) (w := w) (base := base) T
  refine has_of T.f_Lspoilt sc_Lspoilt (fun _ _ _ _ _ _ us hl => match us, hl with | [_, _, _], _ => rfl) (fun vs H Q E h => ?_) (fun cdv A outer s H vs Q E hr h => ?_)
  · obtain ⟨st, ca, l, x, rfl, _⟩ := h
    rfl
  · obtain ⟨st, ca, l, x, rfl, so, lo, x5, xs, k⟩ := h
    refine ⟨_, (pss_cons (ps_setLc (i := 3) (own := [("sign", 6)]) rfl sc_Lspoilt.nd rfl rfl (sw_true rfl rfl rfl (by decide +kernel)) (pi_str (pe_str)) (blkOk_by (own := [("sign", 6)]) (N := N_Lspoilt) (sc := defScope s_Lspoilt) (by decide +kernel)) (fun _ _ _ _ _ => pg_name (i := 6) sc_Lspoilt.nd rfl (Or.inl rfl)) (fun _ _ _ _ _ => pts_one (pt_cmpR op_notIn_sign (pv 6) (pv 1) (by rfl))) (fun _ _ _ _ _ => pv 6))
    (pss_cons (ps_for PassesOwn.never rfl (pi_range1 (by rfl) T.z_range (pa_cons (pe_op op_add (pe_int) (pe_c G_law_next (hr.mono (by decide)) T.g__law_next (pa_cons (pv 0) (pa_cons (pe_int) pa_nil)))) pa_nil)) (pg_name (i := 4) sc_Lspoilt.nd rfl (Or.inl rfl))
    (pss_cons (ps_set (i := 5) sc_Lspoilt.nd rfl (Or.inl rfl) (pe_c G_law_next (hr.mono (by decide)) T.g__law_next (pa_cons (pv 0) (pa_cons (pe_op op_add (pe_callB call_len_str (by rfl) T.z_len PySem.boot_len (pa_cons (pv 2) pa_nil)) (pe_int)) pa_nil))))
      (pss_one (ps_set (i := 2) sc_Lspoilt.nd rfl (Or.inl rfl) (pe_op op_add_str (pe_op op_add_str (pe_slice sl_str (pv 2) po_none (po_some (pv 5))) (pe_ix ix_q (pv 3) (pe_c G_law_next (hr.mono (by decide)) T.g__law_next (pa_cons (pv 0) (pa_cons (pe_callB call_lenQ (by rfl) T.z_len PySem.boot_len (pa_cons (pv 3) pa_nil)) pa_nil))) (fun _ _ => rfl))) (pe_slice sl_str (pv 2) (po_some (pv 5)) po_none))))))
    (pss_one (ps_ret (pv 2))))), ?_⟩
    have htab : ∀ c ∈ cs (Str.ofString "az~ 0AZ_!qmk-"), c < 200 := by decide +kernel
    have h13 : (Str.ofString "az~ 0AZ_!qmk-").cps.size = 13 := by decide +kernel
    -- signs
    refine ⟨_, rfl, fun D hD => lc_it walk_str (fun i H' => Same H H' ∧ ∃ sg' : List Nat, H' D = some (.lst (sg'.map fun c => V.str (sg c))) ∧ sg'.length ≤ i ∧ (∀ c ∈ sg', c ∉ cs l ∧ c < 200) ∧ (4 ≤ i → sg' ≠ [])) ⟨sm_new hD, [], upd_same, Nat.le_refl _, (fun c hc => by cases hc), fun z => by omega⟩ (fun _ _ _ _ => trivial) ?_ ?_⟩
    · rintro i v H1 H2 hi ⟨e, sgs, h1, hl, hn, h4⟩ ⟨e2, c, hc, rfl⟩
      subst e2
      refine ⟨rfl, _, rfl, _, rfl, c, l, rfl, rfl, _, rfl, ite2 (fun z => ?_) (fun z => ?_)⟩
      · have hb : c ∉ cs l := by simpa using z
        refine ⟨_, rfl, _, h1, by rw [List.length_map]; exact Nat.lt_of_le_of_lt (by omega : _ ≤ 1000) (by decide), sm_mut e hD, sgs ++ [c], by rw [upd_same, List.map_append]; rfl, by rw [List.length_append]; show sgs.length + 1 ≤ i + 1; omega, fun d hd => ?_, fun _ => by simp⟩
        rcases List.mem_append.mp hd with y | y
        · exact hn d y
        · rw [List.mem_singleton.mp y]; exact ⟨hb, htab c (List.mem_of_getElem? (i := i) (by simpa using hc))⟩
      · have hb : c ∈ cs l := by simpa using z
        refine ⟨e, sgs, h1, by omega, hn, fun z4 => ?_⟩
        by_cases z5 : 4 ≤ i
        · exact h4 z5
        · have e3 : i = 3 := by omega
          subst e3
          have : c = 32 := by
            have : ((Str.ofString "az~ 0AZ_!qmk-").cps)[3]? = some 32 := by decide +kernel
            rw [this] at hc; exact (Option.some.inj hc).symm
          subst this
          have := lo.small 32 hb
          omega
    · rintro H1 ⟨e, sgs, h1, hl, hn, h4⟩
      have hne : sgs ≠ [] := h4 (by omega)
      have hpos : 0 < sgs.length := List.length_pos_iff.mpr hne
      have hl2 : sgs.length ≤ 1000 := by omega
      have bt0 : But st H H1 := But.of_same e
      have ow0 := so.mono e
      obtain ⟨nDs, nDc⟩ := so.new hD
      refine ⟨_, rfl, st, 2, ca, rfl, ow0, by decide, by decide, fun r H2 r0 r1 ow2 b2 => ⟨_, _, rfl, rfl, 1 + r, rfl, by omega, by omega, ?_⟩⟩
      have h2 := b2 _ _ nDs h1
      refine for_rng (n := (1 + r).toNat) (fun i σ H' => ∃ (v4 v5 : Option V) (y : Str), σ = [some (.ref st), some (.str l), some (.str y), some (.ref D), v4, v5, none] ∧ But st H H' ∧ Own H' st ca ∧ H' D = some (.lst (sgs.map fun c => V.str (sg c))) ∧ y.cps.size + 1 ≤ 2 ^ i * 101 ∧ StrS y ∧ (0 < i → ∃ c, c ∈ cs y ∧ c ∉ cs l)) ⟨_, _, x, rfl, bt0.trans b2, ow2, h2, by show x.cps.size + 1 ≤ 1 * 101; omega, xs, fun z => by omega⟩ ?_ ?_
      · rintro i σ' H3 hi ⟨v4, v5, y, rfl, b3, ow3, h3, hy, hys, hb⟩
        have hi2 : i < 2 := by omega
        have hp : 2 ^ i ≤ 2 := by
          match i, hi2 with
          | 0, _ => decide
          | 1, _ => decide
        have yl2 : y.length ≤ 201 := by show y.cps.size ≤ 201; omega
        have yl : y.length ≤ sizeLine := Nat.le_trans yl2 (by decide)
        refine ⟨_, rfl, _, rfl, y, rfl, yl, _, _, rfl, rfl, st, (y.length : Int) + 1, ca, rfl, ow3, by omega, by show (y.cps.size : Int) + 1 < _; omega, fun a H4 a0 a1 ow4 b4 => ?_⟩
        have h4' := b4 _ _ nDs h3
        refine ⟨_, rfl, _, rfl, a, rfl, y, rfl, yl, _, rfl, _, rfl, _, rfl, _, _, rfl, .l h4', st, ((sgs.map fun c => V.str (sg c)).length : Int), ca, rfl, ow4, by rw [List.length_map]; omega, by rw [List.length_map]; omega, fun q H5 q0 q1 ow5 b5 => ?_⟩
        have h5 := b5 _ _ nDs h4'
        rw [List.length_map] at q1
        have hq : q.toNat < sgs.length := by omega
        have hc := List.getElem?_eq_getElem hq
        have hcm := List.getElem_mem hq
        generalize sgs[q.toNat] = c at hc hcm
        have z1 := cutS_length y none (some a)
        have z2 := cutS_length y (some a) none
        have cl : (cutS y none (some a) ++ sg c).length = (cutS y none (some a)).length + 1 := by rw [len_cs, cs_app, List.length_append, ← len_cs]; rfl
        refine ⟨_, _, _, .str (sg c), rfl, rfl, .l h5, atI_int q0 (by rw [List.getElem?_map, hc]; rfl), _, _, rfl, rfl, ?_, _, rfl, _, rfl, a, rfl, y, rfl, yl, _, _, rfl, rfl, ?_, _, _, _, rfl, (b3.trans b4).trans b5, ow5, h5, ?_, ?_, fun _ => ⟨c, ?_, (hn c hcm).1⟩⟩
        · show _ + 1 ≤ sizeLine
          exact Nat.le_trans (by omega : _ ≤ 202) (by decide)
        · rw [cl]
          exact Nat.le_trans (by omega : _ ≤ 403) (by decide)
        · have : (cutS y none (some a) ++ sg c ++ cutS y (some a) none).cps.size = (cutS y none (some a)).length + 1 + (cutS y (some a) none).length := by
            show Str.length _ = _
            rw [len_cs, cs_app, List.length_append, ← len_cs, ← len_cs, cl]
          rw [this, Nat.pow_succ]
          have : y.length = y.cps.size := rfl
          omega
        · intro d hd
          rw [cs_app, cs_app] at hd
          have cut : ∀ lo hi, d ∈ cs (cutS y lo hi) → d < 200 := fun lo hi hd => by
            unfold cutS cs at hd
            exact hys d (List.mem_of_mem_drop (List.mem_of_mem_take (by simpa using hd)))
          rcases List.mem_append.mp hd with hd | hd
          · rcases List.mem_append.mp hd with hd | hd
            · exact cut _ _ hd
            · rw [List.mem_singleton.mp hd]; exact (hn c hcm).2
          · exact cut _ _ hd
        · rw [cs_app, cs_app]
          exact List.mem_append_left _ (List.mem_append_right _ (List.mem_singleton.mpr rfl))
      · rintro σ' H3 ⟨v4, v5, y, rfl, b3, ow3, h3, hy, hys, hb⟩
        obtain ⟨c, hc, hcb⟩ := hb (by omega)
        exact ⟨_, rfl, k _ y b3 ow3 (bad_of hc hcb) (by
          have hr2 : (1 + r).toNat ≤ 2 := by omega
          have hp : 2 ^ (1 + r).toNat ≤ 4 := by
            have : 2 ^ (1 + r).toNat ≤ 2 ^ 2 := Nat.pow_le_pow_right (by decide) hr2
            exact this
          omega) hys⟩
end
end Fy

set_option Elab.async false
set_option linter.all false
set_option maxRecDepth 100000
set_option maxHeartbeats 4000000
namespace Fy
open PySem PySem.Spec PyProof.Rows L2
theorem RowsU.upd {H : Hp} {a b : Addr} {rows : List (List Int)} {o : HO} (h : RowsU H a rows) (n : ∀ ys, H b ≠ some (.tup ys)) : RowsU (upd H b o) a rows := by
  obtain ⟨ps, h1, h2⟩ := h
  exact ⟨ps, by rw [upd_ne (by rintro rfl; exact n _ h1)]; exact h1, All2.imp (fun p r z => by rw [upd_ne (by rintro rfl; exact n _ z)]; exact z) h2⟩
theorem MachAt.upd {C : Addr} {H : Hp} {p b : Addr} {l : Str} {rows : List (List Int)} {ends : List Int} {xs : List V} {o : HO} (h : MachAt C H p l rows ends) (hb : H b = some (.lst xs)) : MachAt C (L2.upd H b o) p l rows ends := by
  obtain ⟨dx, a, e, h1, h2, h3⟩ := h
  have n : ∀ ys, H b ≠ some (.tup ys) := fun ys z => by rw [hb] at z; cases z
  refine ⟨dx, a, e, ?_, h2.upd n, ?_⟩
  · rw [upd_ne (by rintro rfl; rw [hb] at h1; cases h1)]; exact h1
  · rw [upd_ne (by rintro rfl; exact n _ h3)]; exact h3
/-- copies of rows: lists of their own -/
structure Cop (G : Hp) (D : Addr) (H : Hp) (qs : List Addr) (rs : List (List Int)) : Prop where
  sm : Same G H
  hD : H D = some (.lst (qs.map V.ref))
  fin : FinR H qs rs
  nd : ∀ q ∈ qs, G q = none ∧ q ≠ D
  dis : qs.Nodup
section
variable {P : Program} {w : World} {K : PySem.W.Frag} {mg : Str → Option Value} {base : Heap}
abbrev N_Lmade : List Str := ["letters", "pair", "row", "arrows", "ends", "machine"]
theorem sc_Lmade : FnScope N_Lmade ["letters", "pair"] (defScope s_Lmade) := ⟨rfl, rfl, rfl, by decide +kernel, rfl, by decide +kernel, by decide +kernel⟩
def spLmade (C : Addr) : Sp := fun vs H Q _ => ∃ (p : Addr) (l : Str) (rows : List (List Int)) (ends : List Int), vs = [.str l, .ref p] ∧ PairAt H p rows ends ∧ LOk l ∧ MOk (cs l).length rows ends ∧ ∀ H' m, Same H H' → MachAt C H' m l rows ends → Q (.ref m) H'
theorem ok_Lmade (T : Tx K mg) : Has P w K mg base CX0 4 (He.ga K "_law_made") ["letters", "pair"] (spLmade (CM K)) := by
  have G_Machine_init := ok_Machine_init (P := P) (w := w) (base := base) T
  refine has_of T.f_Lmade sc_Lmade (fun _ _ _ _ _ _ us hl => match us, hl with | [_, _], _ => rfl) (fun vs H Q E h => ?_) (fun cdv A outer s H vs Q E hr h => ?_)
  · obtain ⟨p, l, rows, ends, rfl, _⟩ := h
    rfl
  · obtain ⟨p, l, rows, ends, rfl, ⟨a, b, hp, ⟨ps, hS, hR⟩, hb⟩, lo, mo, k⟩ := h
    have few := mo.few
    have hpl := hR.length
    have hef : ends.length ≤ 1000 := by
      have := nodup_few rows.length ends (mo.asc.imp (fun z => Int.ne_of_lt z)) mo.inn
      omega
    refine ⟨_, (pss_cons (ps_setLc (i := 3) (own := [("row", 2)]) rfl sc_Lmade.nd rfl rfl (sw_true rfl rfl rfl (by decide +kernel)) (pi_q (pe_ix ix_q (pv 1) (pe_int) (fun _ _ => rfl))) (blkOk_by (own := [("row", 2)]) (N := N_Lmade) (sc := defScope s_Lmade) (by decide +kernel)) (fun _ _ _ _ _ => pg_name (i := 2) sc_Lmade.nd rfl (Or.inl rfl)) (fun _ _ _ _ _ => pts_nil) (fun _ _ _ _ _ => pe_callTy call_listQ (by rfl) T.z_list (by decide +kernel) (pa_cons (pv 2) pa_nil)))
    (pss_cons (ps_set (i := 4) sc_Lmade.nd rfl (Or.inl rfl) (pe_callTy call_listQ (by rfl) T.z_list (by decide +kernel) (pa_cons (pe_ix ix_q (pv 1) (pe_int) (fun _ _ => rfl)) pa_nil)))
    (pss_cons (ps_set (i := 5) sc_Lmade.nd rfl (Or.inl rfl) (pe_mk T.m_Machine G_Machine_init (hr.mono (by decide)) T.g_Machine (pa_cons (pv 0) (pa_cons (pv 3) (pa_cons (pv 4) pa_nil)))))
    (pss_cons (ps_for PassesOwn.never rfl (pi_q (pe_callTy call_listQ (by rfl) T.z_list (by decide +kernel) (pa_cons (pv 3) pa_nil))) (pg_name (i := 2) sc_Lmade.nd rfl (Or.inl rfl))
    (pss_one (ps_asg (pe_un un_neg (pe_int)) (pg_sub (pv 2) (pe_int) set_list))))
    (pss_cons (ps_expr (pe_bm PySem.F.plainAttrs_list PySem.F.slot_list_append PySem.F.type_list_append mt_append (pv 4) (pa_cons (pe_int) pa_nil)))
    (pss_one (ps_ret (pv 5)))))))), ?_⟩
    -- arrows = [list(row) for row in pair[0]]
    refine ⟨_, rfl, _, _, _, .ref a, rfl, rfl, .t hp, rfl, lc_q (K := K) hS (fun D i H' => ∃ qs, Cop H D H' qs (rows.take i)) (fun D hD => ⟨[], sm_new hD, upd_same, trivial, (fun q hq => by cases hq), List.nodup_nil⟩) (fun D i H' _ ⟨qs, c⟩ o h => c.sm _ _ h) ?_ ?_⟩
    · rintro D i v H' hD hi ⟨qs, c⟩
      rw [List.getElem?_map] at hi
      cases hq : ps[i]? with
      | none => rw [hq] at hi; cases hi
      | some q0 =>
        rw [hq] at hi; cases hi
        have hir : i < rows.length := by rw [← hpl]; exact (List.getElem?_eq_some_iff.mp hq).1
        have hri := List.getElem?_eq_getElem hir
        obtain ⟨q1, hq1, hrow⟩ := All2.get hR hri
        rw [hq] at hq1; cases hq1
        refine ⟨rfl, _, rfl, _, _, rfl, hrow.mono c.sm, fun q hqn => ?_⟩
        have hql := c.fin.length
        rw [List.length_take] at hql
        have nqD : q ≠ D := Ne.symm (ne_of_none c.hD hqn)
        have nqs := c.fin.new hqn
        refine ⟨_, sm_new hqn _ _ c.hD, by rw [List.length_map, hql]; exact Nat.lt_of_le_of_lt (by omega : _ ≤ 1000) (by decide), qs ++ [q], ⟨sm_mut (sm_laid c.sm hqn) hD, by rw [upd_same, List.map_append]; rfl, ?_, ?_, ?_⟩⟩
        · rw [List.take_add_one, hri]
          refine All2.snoc ((c.fin.upd nqs).upd fun z hz => (c.nd z hz).2) ?_
          rw [upd_ne nqD, upd_same]
        · intro z hz
          rcases List.mem_append.mp hz with y | y
          · exact c.nd z y
          · rw [List.mem_singleton.mp y]; exact ⟨c.sm.free hqn, nqD⟩
        · refine List.nodup_append.mpr ⟨c.dis, List.nodup_cons.mpr ⟨List.not_mem_nil, List.nodup_nil⟩, fun a ha b hb => ?_⟩
          rw [List.mem_singleton.mp hb]
          exact nqs a ha
    · rintro D H1 hD ⟨qs, c⟩
      rw [List.length_map, hpl, List.take_length] at c
      have hql := c.fin.length
      -- ends = list(pair[1])
      refine ⟨_, rfl, _, _, _, .ref b, rfl, rfl, .t (c.sm _ _ hp), rfl, _, _, rfl, .l (c.sm _ _ hb), fun N hN => ?_⟩
      have fN : H N = none := c.sm.free hN
      have nND : N ≠ D := Ne.symm (ne_of_none c.hD hN)
      have nNq := c.fin.new hN
      have e2 : Same H (upd H1 N (.lst (ends.map V.int))) := sm_laid c.sm hN
      have hD2 : upd H1 N (.lst (ends.map V.int)) D = some (.lst (qs.map V.ref)) := sm_new hN _ _ c.hD
      have fin2 := c.fin.upd (o := .lst (ends.map V.int)) nNq
      have hN2 : upd H1 N (.lst (ends.map V.int)) N = some (.lst (ends.map V.int)) := upd_same
      generalize upd H1 N (.lst (ends.map V.int)) = H2 at e2 hD2 fin2 hN2
      -- machine = Machine(letters, arrows, ends)
      refine ⟨_, rfl, _, rfl, _, rfl, fun x dx nx ndx nex => ?_⟩
      have s0 : Same H2 (upd (upd H2 dx (.own x)) x (.ins (CM K) dx [])) := fun b o e => by
        rw [upd_ne (ne_of_none e nx), upd_ne (ne_of_none e ndx)]
        exact e
      refine ⟨H2, x, dx, l, D, N, rows, ends, rfl, s0, nx, upd_same, fin2.rows hD2, .l hN2, lo, mo, fun H3 e3 hM => ⟨rfl, ?_⟩⟩
      have e3' := e2.trans e3
      have hD3 := e3 _ _ hD2
      have hN3 := e3 _ _ hN2
      have fin3 : FinR H3 qs rows := All2.imp (fun _ _ z => e3 _ _ z) fin2
      -- for row in list(arrows): row[0] = -1
      refine ⟨_, rfl, _, _, rfl, .l hD3, fun L hL => ?_⟩
      have e4 := sm_laid (o := .lst (qs.map V.ref)) e3' hL
      have nLq := fin3.new hL
      have fL := e3'.free hL
      refine for_q (xs := qs.map V.ref) (.l upd_same) (fun i σ H' => ∃ v2 : Option V, σ = [some (.str l), some (.ref p), v2, some (.ref D), some (.ref N), some (.ref x)] ∧ Same H H' ∧ MachAt (CM K) H' x l rows ends ∧ H' L = some (.lst (qs.map V.ref)) ∧ H' N = some (.lst (ends.map V.int)) ∧ ∀ q ∈ qs, ∃ n ns, H' q = some (.lst ((n :: ns : List Int).map V.int))) ?_ ?_ ?_ ?_
      · refine ⟨_, rfl, e4, hM.mono (sm_new hL), upd_same, sm_new hL _ _ hN3, fun q hq => ?_⟩
        obtain ⟨i, hi⟩ := List.getElem?_of_mem hq
        have hil := (List.getElem?_eq_some_iff.mp hi).1
        obtain ⟨r, hr, hz⟩ := All2.get' fin3 hi
        have hw := (mo.wide r (List.mem_of_getElem? hr)).1
        cases r with
        | nil =>
          have h1 := lo.pos
          have h2 : 0 = (cs l).length := hw
          omega
        | cons n ns => exact ⟨n, ns, sm_new hL _ _ hz⟩
      · rintro i σ' H' hi ⟨v2, _, _, _, hL', _⟩ o ho
        rw [upd_same] at ho
        rw [hL']; exact ho
      · rintro i v σ2 H5 hi ⟨v2, rfl, e5, hM5, hL5, hN5, hq5⟩
        rw [List.getElem?_map] at hi
        cases hq : qs[i]? with
        | none => rw [hq] at hi; cases hi
        | some q =>
          rw [hq] at hi; cases hi
          have hm := List.mem_of_getElem? hq
          obtain ⟨n, ns, hz⟩ := hq5 q hm
          refine ⟨_, rfl, _, rfl, _, _, _, 0, rfl, rfl, hz, by rw [List.map_cons]; exact ixN_int (by decide) (Nat.succ_pos _), ?_⟩
          have nqL : q ≠ L := nLq q hm
          refine ⟨_, rfl, sm_mut e5 (c.nd q hm).1, hM5.upd hz, ?_, ?_, fun z hz' => ?_⟩
          · rw [upd_ne (Ne.symm nqL)]; exact hL5
          · rw [upd_ne (Ne.symm (nNq q hm))]; exact hN5
          · by_cases e : z = q
            · subst e
              exact ⟨-1, ns, upd_same⟩
            · rw [upd_ne e]; exact hq5 z hz'
      · rintro σ2 H5 ⟨v2, rfl, e5, hM5, hL5, hN5, hq5⟩
        refine ⟨_, rfl, .inl ⟨rfl, _, .of hN5⟩, _, _, _, rfl, rfl, hN5, by rw [List.length_map]; exact Nat.lt_of_le_of_lt hef (by decide), _, rfl, k _ x (sm_mut e5 fN) (hM5.upd hN5)⟩
end
end Fy

set_option Elab.async false
set_option linter.all false
set_option maxRecDepth 100000
set_option maxHeartbeats 4000000
namespace Fy
open PySem PySem.Spec PyProof.Rows L2
section
variable {P : Program} {w : World} {K : PySem.W.Frag} {mg : Str → Option Value} {base : Heap}
abbrev N_Ltwin : List Str := ["state", "rows", "ends", "many", "fresh", "k", "row", "target", "end"]
theorem sc_Ltwin : FnScope N_Ltwin ["state", "rows", "ends"] (defScope s_Ltwin) := ⟨rfl, rfl, rfl, by decide +kernel, rfl, by decide +kernel, by decide +kernel⟩
def spLtwin : Sp := fun vs H Q _ => ∃ (st ca a b : Addr) (n : Nat) (rows : List (List Int)) (ends : List Int), vs = [.ref st, .ref a, .ref b] ∧ Own H st ca ∧ Rows (hid st H) a rows ∧ (hid st H) b = some (.lst (ends.map V.int)) ∧ MOk n rows ends ∧ n ≤ 4 ∧
  ∀ H' p rows' ends', But st H H' → Own H' st ca → PairAt (hid st H') p rows' ends' → MOk n rows' ends' → Q (.ref p) H'
theorem ok_Ltwin (T : Tx K mg) : Has P w K mg base CX0 2 (He.ga K "_law_twin") ["state", "rows", "ends"] spLtwin := by
  have G_law_next := ok_Lnext (P := P) (w := w) (base := base) T
  refine has_of T.f_Ltwin sc_Ltwin (fun _ _ _ _ _ _ us hl => match us, hl with | [_, _, _], _ => rfl) (fun vs H Q E h => ?_) (fun cdv A outer s H vs Q E hr h => ?_)
  · obtain ⟨st, ca, a, b, n, rows, ends, rfl, _⟩ := h
    rfl
  · obtain ⟨st, ca, a, b, n, rows, ends, rfl, so, hA, hB, mo, n4, k⟩ := h
    have few := mo.few
    have pos := mo.pos
    obtain ⟨xsA, hS, hSl⟩ := hA.len
    refine ⟨_, (pss_cons (ps_set (i := 3) sc_Ltwin.nd rfl (Or.inr rfl) (pe_callB call_lenQ (by rfl) T.z_len PySem.boot_len (pa_cons (pv 1) pa_nil)))
    (pss_cons (ps_if (pt_cmpR op_gt (pv 3) (pe_int) (nomark _))
    (pss_one (ps_ret (pe_tup (pa_cons (pv 1) (pa_cons (pv 2) pa_nil)))))
    (pss_nil))
    (pss_cons (ps_set (i := 4) sc_Ltwin.nd rfl (Or.inl rfl) (pe_lst pa_nil))
    (pss_cons (ps_for PassesOwn.never rfl (pi_range1 (by rfl) T.z_range (pa_cons (pe_op op_mul (pe_int) (pv 3)) pa_nil)) (pg_name (i := 5) sc_Ltwin.nd rfl (Or.inl rfl))
    (pss_cons (ps_set (i := 6) sc_Ltwin.nd rfl (Or.inl rfl) (pe_lst pa_nil))
      (pss_cons (ps_for PassesOwn.never rfl (pi_q (pe_ix ix_q (pv 1) (pe_op op_modN (pe_callTy call_intI (by rfl) T.z_int (by decide +kernel) (pa_cons (pv 5) pa_nil)) (pv 3)) (fun _ _ => rfl))) (pg_name (i := 7) sc_Ltwin.nd rfl (Or.inl rfl))
      (pss_one (ps_if (PW.pt (pw_and (pt_cmpR op_ge (pv 7) (pe_int) (nomark _)) (pw_and1 (pt_cmpR op_eq (pe_c G_law_next (hr.mono (by decide)) T.g__law_next (pa_cons (pv 0) (pa_cons (pe_int) pa_nil))) (pe_int) (nomark _)))))
        (pss_one (ps_expr (pe_bm PySem.F.plainAttrs_list PySem.F.slot_list_append PySem.F.type_list_append mt_append (pv 6) (pa_cons (pe_op op_add (pv 7) (pv 3)) pa_nil))))
        (pss_one (ps_expr (pe_bm PySem.F.plainAttrs_list PySem.F.slot_list_append PySem.F.type_list_append mt_append (pv 6) (pa_cons (pv 7) pa_nil)))))))
      (pss_one (ps_expr (pe_bm PySem.F.plainAttrs_list PySem.F.slot_list_append PySem.F.type_list_append mt_append (pv 4) (pa_cons (pv 6) pa_nil)))))))
    (pss_one (ps_ret (pe_tup (pa_cons (pv 4) (pa_cons (pe_op op_cat (pv 2) (pe_lc (own := [("end", 8)]) rfl sc_Ltwin.nd (pi_q (pv 2)) (blkOk_by (own := [("end", 8)]) (N := N_Ltwin) (sc := defScope s_Ltwin) (by decide +kernel)) (fun _ _ _ _ _ => pg_name (i := 8) sc_Ltwin.nd rfl (Or.inl rfl)) (fun _ _ _ _ _ => pts_nil) (fun _ _ _ _ _ => pe_op op_add (pv 8) (pv 3)))) pa_nil))))))))), ?_⟩
    have hsH : Same (hid st H) H := hid_same
    refine ⟨_, rfl, _, _, rfl, hS.mono hsH, ?_⟩
    rw [hSl]
    refine ⟨_, rfl, _, _, rfl, rfl, _, rfl, ite2 (fun c => ?_) (fun c => ?_)⟩
    · -- as it was
      refine ⟨_, rfl, _, rfl, by show 2 ≤ sizeLine; decide, fun p hp => k _ p rows ends (But.of_same (sm_new hp)) (so.mono (sm_new hp)) ⟨a, b, ?_, hA.mono (But.of_same (sm_new hp)).hid, (But.of_same (sm_new hp)).hid _ _ hB⟩ mo⟩
      rw [hid_ne (so.new hp).1]; exact upd_same
    · have h64 : rows.length ≤ 64 := by
        have : ¬ (64 : Int) < (rows.length : Int) := fun z => c (decide_eq_true z)
        omega
      refine ⟨Nat.zero_le _, fun R hR => ?_⟩
      obtain ⟨nRs, nRc⟩ := so.new hR
      refine ⟨_, rfl, _, _, rfl, rfl, .inl (by decide), 2 * (rows.length : Int), rfl, by omega, by omega, for_rng (n := (2 * (rows.length : Int)).toNat) (fun i σ H' => ∃ (v5 v6 v7 : Option V) (qs : List Addr) (rs : List (List Int)), σ = [some (.ref st), some (.ref a), some (.ref b), some (.int (rows.length : Nat)), some (.ref R), v5, v6, v7, none] ∧ But st H H' ∧ Own H' st ca ∧ H' R = some (.lst (qs.map V.ref)) ∧ FinR H' qs rs ∧ (∀ q ∈ qs, q ≠ st ∧ q ≠ R) ∧
        rs.length = i ∧ ∀ r ∈ rs, r.length = n ∧ ∀ x ∈ r, -1 ≤ x ∧ x < ((2 * rows.length : Nat) : Int)) ⟨_, _, _, [], [], rfl, But.of_same (sm_new hR), so.mono (sm_new hR), upd_same, trivial, (fun q hq => by cases hq), rfl, fun r hr => by cases hr⟩ ?_ ?_⟩
      · rintro i σ' H1 hi ⟨v5, v6, v7, qs, rs, rfl, bt, ow, hR1, fin, qn, rl, rok⟩
        have hi' : i < 2 * rows.length := by omega
        have hql := fin.length
        refine ⟨Nat.zero_le _, fun W hW => ?_⟩
        obtain ⟨nWs, nWc⟩ := ow.new hW
        have nWR : W ≠ R := Ne.symm (ne_of_none hR1 hW)
        have nWq := fin.new hW
        have fW : H W = none := bt.free nWs hW
        have nqs : ∀ q ∈ qs, q ≠ st := fun q hq => (qn q hq).1
        have hm := imod_range (a := (i : Int)) (b := (rows.length : Int)) (by omega)
        obtain ⟨pr, xs, hSq, hat, hrow⟩ := hA.item hm.1 hm.2
        have htm := tg_mem (rows := rows) (q := (i : Int).fmod (rows.length : Int)) (by omega)
        have hw := mo.wide _ htm
        have L0 : LRow H st ca R W qs rs (2 * rows.length) 0 (upd H1 W (.lst [])) [] := ⟨bt.trans (But.of_same (sm_new hW)), ow.mono (sm_new hW), sm_new hW _ _ hR1, fin.upd nWq, upd_same, rfl, fun x hx => by cases hx⟩
        generalize upd H1 W (.lst []) = H2 at L0
        generalize tg rows ((i : Int).fmod (rows.length : Int)) = tr at hrow hw
        refine ⟨_, rfl, _, rfl, _, rfl, _, rfl, _, _, rfl, rfl, (by show (rows.length : Int) ≠ 0; omega), _, _, _, .ref pr, rfl, rfl, hSq.mono L0.bt.same, hat, for_q (hrow.mono L0.bt.same) (fun j σ H' => ∃ (v7 : Option V) (r : List Int), σ = [some (.ref st), some (.ref a), some (.ref b), some (.int (rows.length : Nat)), some (.ref R), some (.int (i : Nat)), some (.ref W), v7, none] ∧ LRow H st ca R W qs rs (2 * rows.length) j H' r)
          ⟨_, [], rfl, L0⟩ (fun j σ' H' _ ⟨_, _, _, L⟩ => keep_of hrow L0.bt.same L.bt.same) ?_ ?_⟩
        · rintro j v σ2 H3 hj ⟨w7, r, rfl, L⟩
          obtain ⟨t, ht, rfl⟩ := int_item hj
          obtain ⟨t0, t1⟩ := hw.2 t (List.mem_of_getElem? ht)
          have hj4 : j < 4 := by have := (List.getElem?_eq_some_iff.mp ht).1; omega
          have rz : ∀ {H5 r5}, LRow H st ca R W qs rs (2 * rows.length) j H5 r5 → (r5.map V.int).length < sizeLine := fun L5 => by
            rw [List.length_map, L5.len]; exact Nat.lt_of_lt_of_le hj4 (by decide)
          refine ⟨_, rfl, _, _, rfl, rfl, _, rfl, ite2 (fun c1 => ?_) (fun c1 => ?_)⟩
          · refine ⟨_, rfl, st, 2, ca, rfl, L.ow, by decide, by decide, fun q H4 q0 q1 ow4 b4 => ?_⟩
            have L4 := L.draw b4 ow4 nRs nWs nqs
            refine ⟨rfl, _, rfl, ite2 (fun c2 => ?_) (fun c2 => ?_)⟩
            · exact ⟨_, rfl, .inl ⟨rfl, _, .of L4.hW⟩, _, rfl, _, rfl, _, _, rfl, rfl, _, _, _, rfl, rfl, L4.hW, rz L4, _, _, rfl, L4.put fW nWs nWc nWR nWq (by omega) (by push_cast; omega)⟩
            · exact ⟨_, rfl, .inl ⟨rfl, _, .of L4.hW⟩, _, rfl, _, _, _, rfl, rfl, L4.hW, rz L4, _, _, rfl, L4.put fW nWs nWc nWR nWq t0 (by push_cast; omega)⟩
          · exact ⟨_, rfl, .inl ⟨rfl, _, .of L.hW⟩, _, rfl, _, _, _, rfl, rfl, L.hW, rz L, _, _, rfl, L.put fW nWs nWc nWR nWq t0 (by push_cast; omega)⟩
        · rintro σ2 H3 ⟨w7, r, rfl, L⟩
          have hrl := L.len
          rw [List.length_map, hw.1] at hrl
          refine ⟨_, rfl, .inl ⟨rfl, _, .of L.hR⟩, _, rfl, _, _, _, rfl, rfl, L.hR, by rw [List.length_map, hql, rl]; exact Nat.lt_of_lt_of_le (by omega : i < 1000) (by decide), _, _, _, qs ++ [W], rs ++ [r], rfl, L.bt.mut hR, L.ow.upd nRs nRc, by rw [upd_same, List.map_append]; rfl, ?_, ?_, by rw [List.length_append, rl]; rfl, ?_⟩
          · exact All2.snoc (L.fin.upd fun q hq => (qn q hq).2) (by rw [upd_ne nWR]; exact L.hW)
          · intro q hq
            rcases List.mem_append.mp hq with y | y
            · exact qn q y
            · rw [List.mem_singleton.mp y]; exact ⟨nWs, nWR⟩
          · intro r' hr'
            rcases List.mem_append.mp hr' with y | y
            · exact rok r' y
            · rw [List.mem_singleton.mp y]; exact ⟨hrl, L.rng⟩
      · rintro σ' H1 ⟨v5, v6, v7, qs, rs, rfl, bt, ow, hR1, fin, qn, rl, rok⟩
        have hb1 := bt.same _ _ hB
        have hef : ends.length ≤ 128 := Nat.le_trans (nodup_few rows.length ends (mo.asc.imp (fun z => Int.ne_of_lt z)) mo.inn) few
        -- (fresh, ends + [end + many ..])
        refine ⟨_, rfl, _, rfl, _, rfl, lc_q (K := K) (.l hb1) (fun D i H' => Same H1 H' ∧ H' D = some (.lst (((ends.take i).map fun e => e + (rows.length : Int)).map V.int))) (fun D hD => ⟨sm_new hD, by rw [upd_same]; rfl⟩) (fun D i H' _ p o h => p.1 _ _ h) ?_ ?_⟩
        · rintro D i v H' hD hi ⟨e, h1⟩
          obtain ⟨x, hx, rfl⟩ := int_item hi
          have hil := (List.getElem?_eq_some_iff.mp hx).1
          refine ⟨rfl, _, rfl, _, rfl, _, _, rfl, rfl, _, h1, ?_, sm_mut e hD, ?_⟩
          · rw [List.length_map, List.length_map, List.length_take]; exact Nat.lt_of_le_of_lt (by omega : _ ≤ 1000) (by decide)
          · rw [upd_same, List.take_add_one, hx, List.map_append, List.map_append]; rfl
        · rintro D H2 hD ⟨e, h1⟩
          rw [List.length_map, List.take_length] at h1
          have hb2 := e _ _ hb1
          refine ⟨b, D, _, _, rfl, rfl, hb2, h1, ?_, fun p hp => ⟨by show 2 ≤ sizeLine; decide, fun q hq => ?_⟩⟩
          · rw [List.length_map, List.length_map, List.length_map]; exact Nat.le_trans (by omega : _ ≤ 1000) (by decide)
          · have e2 : Same H1 (upd (upd H2 p (.lst (ends.map V.int ++ (ends.map fun e => e + (rows.length : Int)).map V.int))) q (.tup [.ref R, .ref p])) := (e.trans (sm_new hp)).trans (sm_new hq)
            have ow2 := (ow.mono e).mono (sm_new (o := .lst (ends.map V.int ++ (ends.map fun e => e + (rows.length : Int)).map V.int)) hp)
            refine k _ q rs (ends ++ ends.map fun e => e + (rows.length : Int)) (bt.trans (But.of_same e2)) (ow.mono e2) ⟨R, p, ?_, ⟨qs, ?_, ?_⟩, ?_⟩ ⟨by omega, by omega, fun r hr => ⟨(rok r hr).1, fun x hx => by have := (rok r hr).2 x hx; omega⟩, ?_, ?_⟩
            · rw [hid_ne (ow2.new hq).1]; exact upd_same
            · exact .l (by rw [hid_ne nRs]; exact e2 _ _ hR1)
            · exact All2.imp_mem (fun z r hz y => .l (by rw [hid_ne (qn z hz).1]; exact e2 _ _ y)) fin
            · rw [hid_ne ((ow.mono e).new hp).1, List.map_append]; exact sm_new hq _ _ upd_same
            · refine List.pairwise_append.mpr ⟨mo.asc, ?_, fun x hx y hy => ?_⟩
              · rw [List.pairwise_map]; exact mo.asc.imp fun z => by omega
              · obtain ⟨z, hz, rfl⟩ := List.mem_map.mp hy
                have := mo.inn x hx
                have := mo.inn z hz
                omega
            · intro x hx
              rcases List.mem_append.mp hx with y | y
              · have := mo.inn x y; omega
              · obtain ⟨z, hz, rfl⟩ := List.mem_map.mp y
                have := mo.inn z hz
                omega
end
end Fy

set_option Elab.async false
set_option linter.all false
set_option maxRecDepth 100000
set_option maxHeartbeats 4000000
namespace Fy
open PySem PySem.Spec PyProof.Rows L2
theorem mok_set {n : Nat} {rows : List (List Int)} {ends : List Int} (h : MOk n rows ends) (i j : Nat) {r : List Int} (hr : rows[i]? = some r) {z : Int} (z0 : -1 ≤ z) (z1 : z < rows.length) : MOk n (rows.set i (r.set j z)) ends := by
  refine ⟨by rw [List.length_set]; exact h.pos, by rw [List.length_set]; exact h.few, fun r' hr' => ?_, h.asc, by rw [List.length_set]; exact h.inn⟩
  rw [List.length_set]
  rcases List.mem_or_eq_of_mem_set hr' with y | y
  · exact h.wide r' y
  · subst y
    have hw := h.wide r (List.mem_of_getElem? hr)
    refine ⟨by rw [List.length_set]; exact hw.1, fun x hx => ?_⟩
    rcases List.mem_or_eq_of_mem_set hx with y | y
    · exact hw.2 x y
    · rw [y]; exact ⟨z0, z1⟩
theorem mok_ends {n : Nat} {rows : List (List Int)} {ends es : List Int} (h : MOk n rows ends) (a : es.Pairwise (· < ·)) (i : ∀ e ∈ es, 0 ≤ e ∧ e < rows.length) : MOk n rows es := ⟨h.pos, h.few, h.wide, a, i⟩
theorem asc_of {es : List Int} (a : es.Pairwise (· ≤ ·)) (n : es.Nodup) : es.Pairwise (· < ·) := by
  have := List.Pairwise.and a n
  exact this.imp fun ⟨h1, h2⟩ => by omega
section
variable {P : Program} {w : World} {K : PySem.W.Frag} {mg : Str → Option Value} {base : Heap}
abbrev N_Lchanged : List Str := ["state", "letters", "rows", "ends", "row", "fresh", "others", "at", "k"]
theorem sc_Lchanged : FnScope N_Lchanged ["state", "letters", "rows", "ends"] (defScope s_Lchanged) := ⟨rfl, rfl, rfl, by decide +kernel, rfl, by decide +kernel, by decide +kernel⟩
def spLchanged : Sp := fun vs H Q _ => ∃ (st ca a b : Addr) (l : Str) (rows : List (List Int)) (ends : List Int), vs = [.ref st, .str l, .ref a, .ref b] ∧ Own H st ca ∧ Rows (hid st H) a rows ∧ (hid st H) b = some (.lst (ends.map V.int)) ∧ MOk (cs l).length rows ends ∧ LOk l ∧
  ∀ H' p rows' ends', But st H H' → Own H' st ca → PairAt (hid st H') p rows' ends' → MOk (cs l).length rows' ends' → Q (.ref p) H'
theorem ok_Lchanged (T : Tx K mg) : Has P w K mg base CX0 2 (He.ga K "_law_changed") ["state", "letters", "rows", "ends"] spLchanged := by
  have G_law_next := ok_Lnext (P := P) (w := w) (base := base) T
  refine has_of T.f_Lchanged sc_Lchanged (fun _ _ _ _ _ _ us hl => match us, hl with | [_, _, _, _], _ => rfl) (fun vs H Q E h => ?_) (fun cdv A outer s H vs Q E hr h => ?_)
  · obtain ⟨st, ca, a, b, l, rows, ends, rfl, _⟩ := h
    rfl
  · obtain ⟨st, ca, a, b, l, rows, ends, rfl, so, hA, hB, mo, lo, k⟩ := h
    have few := mo.few
    have pos := mo.pos
    have l1 := lo.pos
    have l4 := lo.four
    have hef : ends.length ≤ 128 := Nat.le_trans (nodup_few rows.length ends (mo.asc.imp (fun z => Int.ne_of_lt z)) mo.inn) few
    have hsH : Same (hid st H) H := hid_same
    have hB1 := hsH _ _ hB
    obtain ⟨ps, hS, hR⟩ := hA.mono hsH
    have hpl := hR.length
    obtain ⟨xsA, hSA, hSAl⟩ := hA.len
    have ll : l.length ≤ sizeLine := by rw [len_cs]; exact Nat.le_trans l4 (by decide)
    refine ⟨_, (pss_cons (ps_setLc (i := 5) (own := [("row", 4)]) rfl sc_Lchanged.nd rfl rfl (sw_true rfl rfl rfl (by decide +kernel)) (pi_q (pv 2)) (blkOk_by (own := [("row", 4)]) (N := N_Lchanged) (sc := defScope s_Lchanged) (by decide +kernel)) (fun _ _ _ _ _ => pg_name (i := 4) sc_Lchanged.nd rfl (Or.inl rfl)) (fun _ _ _ _ _ => pts_nil) (fun _ _ _ _ _ => pe_callTy call_listQ (by rfl) T.z_list (by decide +kernel) (pa_cons (pv 4) pa_nil)))
    (pss_cons (ps_set (i := 6) sc_Lchanged.nd rfl (Or.inl rfl) (pe_callTy call_listQ (by rfl) T.z_list (by decide +kernel) (pa_cons (pv 3) pa_nil)))
    (pss_cons (ps_set (i := 7) sc_Lchanged.nd rfl (Or.inr rfl) (pe_c G_law_next (hr.mono (by decide)) T.g__law_next (pa_cons (pv 0) (pa_cons (pe_callB call_lenQ (by rfl) T.z_len PySem.boot_len (pa_cons (pv 2) pa_nil)) pa_nil))))
    (Evl.pss_cut (ps_if (pt_cmpR op_eq (pe_c G_law_next (hr.mono (by decide)) T.g__law_next (pa_cons (pv 0) (pa_cons (pe_int) pa_nil))) (pe_int) (nomark _))
    (pss_cons (ps_set (i := 4) sc_Lchanged.nd rfl (Or.inl rfl) (pe_ix ix_q (pv 5) (pv 7) (fun _ _ => rfl)))
      (pss_one (ps_asg (pe_op op_sub (pe_c G_law_next (hr.mono (by decide)) T.g__law_next (pa_cons (pv 0) (pa_cons (pe_op op_add (pe_callB call_lenQ (by rfl) T.z_len PySem.boot_len (pa_cons (pv 2) pa_nil)) (pe_int)) pa_nil))) (pe_int)) (pg_sub (pv 4) (pe_c G_law_next (hr.mono (by decide)) T.g__law_next (pa_cons (pv 0) (pa_cons (pe_callB call_len_str (by rfl) T.z_len PySem.boot_len (pa_cons (pv 1) pa_nil)) pa_nil))) set_list))))
    (pss_one (ps_if (pt_cmpR op_inQ (pv 7) (pv 6) (by rfl))
      (pss_one (ps_setLc (i := 6) (own := [("k", 8)]) rfl sc_Lchanged.nd rfl rfl (sw_true rfl rfl rfl (by decide +kernel)) (pi_q (pv 6)) (blkOk_by (own := [("k", 8)]) (N := N_Lchanged) (sc := defScope s_Lchanged) (by decide +kernel)) (fun _ _ _ _ _ => pg_name (i := 8) sc_Lchanged.nd rfl (Or.inl rfl)) (fun _ _ _ _ _ => pts_one (pt_cmpR op_ne (pv 8) (pv 7) (nomark _))) (fun _ _ _ _ _ => pv 8)))
      (pss_one (ps_set (i := 6) sc_Lchanged.nd rfl (Or.inl rfl) (pe_callB cr_sortedI (by rfl) T.z_sorted (by decide +kernel) (pa_cons (pe_op op_cat (pv 6) (pe_lst (pa_cons (pv 7) pa_nil))) pa_nil)))))))
    (pss_one (ps_ret (pe_tup (pa_cons (pv 5) (pa_cons (pv 6) pa_nil))))))))), ?_⟩
    refine ⟨_, rfl, lc_q (K := K) hS (fun D i H' => ∃ qs, Cop H D H' qs (rows.take i)) (fun D hD => ⟨[], sm_new hD, upd_same, trivial, (fun q hq => by cases hq), List.nodup_nil⟩) (fun D i H' _ ⟨qs, c⟩ o h => c.sm _ _ h) ?_ ?_⟩
    · rintro D i v H' hD hi ⟨qs, c⟩
      rw [List.getElem?_map] at hi
      cases hq : ps[i]? with
      | none => rw [hq] at hi; cases hi
      | some q0 =>
        rw [hq] at hi; cases hi
        have hir : i < rows.length := by rw [← hpl]; exact (List.getElem?_eq_some_iff.mp hq).1
        have hri := List.getElem?_eq_getElem hir
        obtain ⟨q1, hq1, hrow⟩ := All2.get hR hri
        rw [hq] at hq1; cases hq1
        refine ⟨rfl, _, rfl, _, _, rfl, hrow.mono c.sm, fun q hqn => ?_⟩
        have hql := c.fin.length
        rw [List.length_take] at hql
        have nqD : q ≠ D := Ne.symm (ne_of_none c.hD hqn)
        have nqs := c.fin.new hqn
        refine ⟨_, sm_new hqn _ _ c.hD, by rw [List.length_map, hql]; exact Nat.lt_of_le_of_lt (by omega : _ ≤ 1000) (by decide), qs ++ [q], ⟨sm_mut (sm_laid c.sm hqn) hD, by rw [upd_same, List.map_append]; rfl, ?_, ?_, ?_⟩⟩
        · rw [List.take_add_one, hri]
          refine All2.snoc ((c.fin.upd nqs).upd fun z hz => (c.nd z hz).2) ?_
          rw [upd_ne nqD, upd_same]
        · intro z hz
          rcases List.mem_append.mp hz with y | y
          · exact c.nd z y
          · rw [List.mem_singleton.mp y]; exact ⟨c.sm.free hqn, nqD⟩
        · refine List.nodup_append.mpr ⟨c.dis, List.nodup_cons.mpr ⟨List.not_mem_nil, List.nodup_nil⟩, fun a ha b hb => ?_⟩
          rw [List.mem_singleton.mp hb]
          exact nqs a ha
    · rintro D H1 hD ⟨qs, c⟩
      rw [List.length_map, hpl, List.take_length] at c
      obtain ⟨nDs, nDc⟩ := so.new hD
      have nqs : ∀ q ∈ qs, q ≠ st ∧ q ≠ ca := fun q hq => so.new (c.nd q hq).1
      -- others = list(ends)
      refine ⟨_, rfl, _, _, rfl, .l (c.sm _ _ hB1), fun O hO => ?_⟩
      have fO : H O = none := c.sm.free hO
      obtain ⟨nOs, nOc⟩ := so.new fO
      have nOq := c.fin.new hO
      have e2 : Same H (upd H1 O (.lst (ends.map V.int))) := sm_laid c.sm hO
      have hD2 := sm_new (o := .lst (ends.map V.int)) hO _ _ c.hD
      have fin2 := c.fin.upd (o := .lst (ends.map V.int)) nOq
      have hO2 : upd H1 O (.lst (ends.map V.int)) O = some (.lst (ends.map V.int)) := upd_same
      generalize upd H1 O (.lst (ends.map V.int)) = H2 at e2 hD2 fin2 hO2
      -- at = next(len(rows))
      refine ⟨_, rfl, _, rfl, _, _, rfl, hS.mono e2, st, ((ps.map V.ref).length : Int), ca, rfl, so.mono e2, by rw [List.length_map]; omega, by rw [List.length_map]; omega, fun r H3 r0 r1 ow3 b3 => ?_⟩
      rw [List.length_map, hpl] at r1
      have bt3 := (But.of_same (st := st) e2).trans b3
      have hD3 := b3 _ _ nDs hD2
      have hO3 := b3 _ _ nOs hO2
      have fin3 := fin2.but b3 (fun q hq => (nqs q hq).1)
      refine ⟨fun σ' H' => ∃ (v4 : Option V) (O' : Addr) (rs' : List (List Int)) (es' : List Int), σ' = [some (.ref st), some (.str l), some (.ref a), some (.ref b), v4, some (.ref D), some (.ref O'), some (.int r), none] ∧ But st H H' ∧ Own H' st ca ∧ H' D = some (.lst (qs.map V.ref)) ∧ FinR H' qs rs' ∧ O' ≠ st ∧ H' O' = some (.lst (es'.map V.int)) ∧ MOk (cs l).length rs' es', ?_, ?_⟩
      · refine ⟨_, rfl, st, 2, ca, rfl, ow3, by decide, by decide, fun q H4 q0 q1 ow4 b4 => ?_⟩
        have bt4 := bt3.trans b4
        have hD4 := b4 _ _ nDs hD3
        have hO4 := b4 _ _ nOs hO3
        have fin4 := fin3.but b4 (fun q hq => (nqs q hq).1)
        refine ⟨rfl, _, rfl, ite2 (fun c1 => ?_) (fun c1 => ?_)⟩
        · -- a target changed
          have hrl : r.toNat < rows.length := by omega
          have hri := List.getElem?_eq_getElem hrl
          generalize rows[r.toNat] = row at hri
          obtain ⟨pr, hpr, hrow⟩ := All2.get fin4 hri
          have hpm := List.mem_of_getElem? hpr
          have hw := mo.wide row (List.mem_of_getElem? hri)
          refine ⟨_, rfl, _, rfl, _, _, _, .ref pr, rfl, rfl, .l hD4, atI_int r0 (by rw [List.getElem?_map, hpr]; rfl), ?_⟩
          refine ⟨_, rfl, _, rfl, _, _, rfl, hSA.mono bt4.same, _, _, rfl, rfl, st, (xsA.length : Int) + 1, ca, rfl, ow4, by omega, by omega, fun z H5 z0 z1 ow5 b5 => ⟨_, _, rfl, rfl, _, rfl, _, rfl, _, rfl, l, rfl, ll, st, (l.length : Int), ca, rfl, ow5, by rw [len_cs]; omega, by rw [len_cs]; omega, fun y H6 y0 y1 ow6 b6 => ?_⟩⟩
          have b46 := b5.trans b6
          have hrow6 := b46 _ _ (nqs pr hpm).1 hrow
          have fin6 := fin4.but b46 (fun q hq => (nqs q hq).1)
          have hD6 := b46 _ _ nDs hD4
          have hO6 := b46 _ _ nOs hO4
          rw [len_cs] at y1
          refine ⟨_, _, _, y.toNat, rfl, rfl, hrow6, ixN_int y0 (by rw [List.length_map, hw.1]; omega), ?_⟩
          rw [map_set_int]
          refine ⟨_, O, rows.set r.toNat (row.set y.toNat (z - 1)), ends, rfl, (bt4.trans b46).mut (c.nd pr hpm).1, ow6.upd (nqs pr hpm).1 (nqs pr hpm).2, ?_, lists_upd c.dis fin6 hpr, nOs, ?_, mok_set mo r.toNat y.toNat hri (by omega) (by omega)⟩
          · rw [upd_ne (Ne.symm (c.nd pr hpm).2)]; exact hD6
          · rw [upd_ne (Ne.symm (nOq pr hpm))]; exact hO6
        · refine ⟨_, rfl, _, rfl, _, _, rfl, .l hO4, rfl, flat_ints _, ?_⟩
          rw [if_neg (by decide), inV_ints]
          refine ⟨_, rfl, ite2 (fun c2 => ?_) (fun c2 => ?_)⟩
          · -- an end less
            refine ⟨_, rfl, lc_q (K := K) (.l hO4) (fun M i H' => Same H4 H' ∧ H' M = some (.lst (((ends.take i).filter fun x => decide (x ≠ r)).map V.int))) (fun M hM => ⟨sm_new hM, by rw [upd_same]; rfl⟩) (fun M i H' _ p o h => p.1 _ _ h) ?_ ?_⟩
            · rintro M i v H' hM hi ⟨e, h1⟩
              obtain ⟨x, hx, rfl⟩ := int_item hi
              have hil := (List.getElem?_eq_some_iff.mp hx).1
              have tk : ends.take (i + 1) = ends.take i ++ [x] := by rw [List.take_add_one, hx]; rfl
              refine ⟨rfl, _, rfl, _, rfl, rfl, _, rfl, ite2 (fun c3 => ?_) (fun c3 => ?_)⟩
              · have hne : x ≠ r := by simpa using c3
                refine ⟨_, rfl, _, h1, ?_, sm_mut e hM, ?_⟩
                · rw [List.length_map]; exact Nat.lt_of_le_of_lt (Nat.le_trans (List.length_filter_le _ _) (by rw [List.length_take]; omega : _ ≤ 1000)) (by decide)
                · rw [upd_same, tk, List.filter_append, List.map_append, List.filter_cons, if_pos (decide_eq_true hne)]; rfl
              · have hne : x = r := by simpa using c3
                refine ⟨e, ?_⟩
                rw [tk, List.filter_append, List.filter_cons, if_neg (by simp [hne]), List.filter_nil, List.append_nil]
                exact h1
            · rintro M H5 hM ⟨e, h1⟩
              rw [List.length_map, List.take_length] at h1
              exact ⟨_, M, rows, _, rfl, bt4.trans (But.of_same e), ow4.mono e, e _ _ hD4, All2.imp (fun _ _ z => e _ _ z) fin4, (ow4.new hM).1, h1, mok_ends mo (mo.asc.filter _) fun x hx => mo.inn x (List.mem_filter.mp hx).1⟩
          · -- an end more
            have hnin : r ∉ ends := by simpa using c2
            refine ⟨_, rfl, _, rfl, by show 1 ≤ sizeLine; decide, fun M hM => ⟨O, M, _, _, rfl, rfl, sm_new hM _ _ hO4, upd_same, ?_, fun N hN => ⟨N, ends ++ [r], rfl, .of (by rw [upd_same, List.map_append]; rfl), fun es' p' hperm hle hp' => ?_⟩⟩⟩
            · rw [List.length_map]; exact Nat.le_trans (Nat.add_le_add_right hef 1) (by decide)
            · have e5 : Same H4 (upd (upd (upd H4 M (.lst [.int r])) N (.lst (ends.map V.int ++ [.int r]))) p' (.lst (es'.map V.int))) := ((sm_new hM).trans (sm_new hN)).trans (sm_new hp')
              have ow5 := (ow4.mono (sm_new (o := .lst [.int r]) hM)).mono (sm_new (o := .lst (ends.map V.int ++ [.int r])) hN)
              have nd : (ends ++ [r]).Nodup := List.nodup_append.mpr ⟨mo.asc.imp (fun z => Int.ne_of_lt z), List.nodup_cons.mpr ⟨List.not_mem_nil, List.nodup_nil⟩, fun a ha b hb => by rw [List.mem_singleton.mp hb]; rintro rfl; exact hnin ha⟩
              refine ⟨_, p', rows, es', rfl, bt4.trans (But.of_same e5), ow4.mono e5, e5 _ _ hD4, All2.imp (fun _ _ z => e5 _ _ z) fin4, (ow5.new hp').1, upd_same, mok_ends mo (asc_of hle (hperm.nodup_iff.mpr nd)) fun x hx => ?_⟩
              rcases List.mem_append.mp (hperm.mem_iff.mp hx) with y | y
              · exact mo.inn x y
              · rw [List.mem_singleton.mp y]; omega
      · rintro σ' H4 ⟨v4, O', rs', es', rfl, bt4, ow4, hD4, fin4, nO', hO4, mo4⟩
        refine ⟨_, rfl, _, rfl, by show 2 ≤ sizeLine; decide, fun q hq => k _ q rs' es' (bt4.trans (But.of_same (sm_new hq))) (ow4.mono (sm_new hq)) ⟨D, O', ?_, ⟨qs, ?_, ?_⟩, ?_⟩ mo4⟩
        · rw [hid_ne (ow4.new hq).1]; exact upd_same
        · exact .l (by rw [hid_ne nDs]; exact sm_new hq _ _ hD4)
        · exact All2.imp_mem (fun z r hz y => .l (by rw [hid_ne (nqs z hz).1]; exact sm_new hq _ _ y)) fin4
        · rw [hid_ne nO']; exact sm_new hq _ _ hO4
end
end Fy

set_option Elab.async false
set_option linter.all false
set_option maxRecDepth 100000
set_option maxHeartbeats 4000000
namespace Fy
open PySem PySem.Spec PyProof.Rows L2
section
variable {P : Program} {w : World} {K : PySem.W.Frag} {mg : Str → Option Value} {base : Heap}
theorem mok_one (n : Nat) {t : Int} (h0 : -1 ≤ t) (h1 : t ≤ 0) {es : List Int} (he : es = [] ∨ es = [0]) : MOk n [List.replicate n t] es :=
  ⟨by show 0 < 1; decide, by show 1 ≤ 128; decide, fun r hr => by
    rw [List.mem_singleton.mp hr]
    exact ⟨List.length_replicate, fun x hx => by rw [(List.mem_replicate.mp hx).2]; show -1 ≤ t ∧ t < ((1 : Nat) : Int); omega⟩, by rcases he with rfl | rfl <;> simp, fun e hx => by
    rcases he with rfl | rfl
    · cases hx
    · rw [List.mem_singleton.mp hx]; show (0 : Int) ≤ 0 ∧ (0 : Int) < ((1 : Nat) : Int); decide⟩
abbrev N_Lguess : List Str := ["state", "letters", "hidden", "choice", "target", "letter"]
theorem sc_Lguess : FnScope N_Lguess ["state", "letters", "hidden"] (defScope s_Lguess) := ⟨rfl, rfl, rfl, by decide +kernel, rfl, by decide +kernel, by decide +kernel⟩
def spLguess : Sp := fun vs H Q _ => ∃ (st ca h : Addr) (l : Str) (rows : List (List Int)) (ends : List Int), vs = [.ref st, .str l, .ref h] ∧ Own H st ca ∧ PairAt (hid st H) h rows ends ∧ MOk (cs l).length rows ends ∧ LOk l ∧
  ∀ H' p rows' ends', But st H H' → Own H' st ca → PairAt (hid st H') p rows' ends' → MOk (cs l).length rows' ends' → Q (.ref p) H'
theorem ok_Lguess (T : Tx K mg) : Has P w K mg base CX0 4 (He.ga K "_law_guess") ["state", "letters", "hidden"] spLguess := by
  have G_law_next := ok_Lnext (P := P) (w := w) (base := base) T
  have G_law_hidden := ok_Lhidden (P := P) (w := w) (base := base) T
  have G_law_twin := ok_Ltwin (P := P) (w := w) (base := base) T
  have G_law_changed := ok_Lchanged (P := P) (w := w) (base := base) T
  refine has_of T.f_Lguess sc_Lguess (fun _ _ _ _ _ _ us hl => match us, hl with | [_, _, _], _ => rfl) (fun vs H Q E h => ?_) (fun cdv A outer s H vs Q E hr h => ?_)
  · obtain ⟨st, ca, h, l, rows, ends, rfl, _⟩ := h
    rfl
  · obtain ⟨st, ca, h, l, rows, ends, rfl, so, hP, mo, lo, k⟩ := h
    have l4 := lo.four
    have hsz : l.cps.size = (cs l).length := by simp
    refine ⟨_, (pss_cons (ps_set (i := 3) sc_Lguess.nd rfl (Or.inl rfl) (pe_c G_law_next (hr.mono (by decide)) T.g__law_next (pa_cons (pv 0) (pa_cons (pe_int) pa_nil))))
    (pss_cons (ps_if (pt_cmpR op_eq (pv 3) (pe_int) (nomark _))
    (pss_one (ps_ret (pe_c G_law_hidden (hr.mono (by decide)) T.g__law_hidden (pa_cons (pv 0) (pa_cons (pv 1) pa_nil)))))
    (pss_nil))
    (pss_cons (ps_if (pt_cmpR op_eq (pv 3) (pe_int) (nomark _))
    (pss_one (ps_ret (pe_c G_law_twin (hr.mono (by decide)) T.g__law_twin (pa_cons (pv 0) (pa_cons (pe_ix ix_q (pv 2) (pe_int) (fun _ _ => rfl)) (pa_cons (pe_ix ix_q (pv 2) (pe_int) (fun _ _ => rfl)) pa_nil))))))
    (pss_nil))
    (pss_cons (ps_if (pt_cmpR op_eq (pv 3) (pe_int) (nomark _))
    (pss_cons (ps_set (i := 4) sc_Lguess.nd rfl (Or.inr rfl) (pe_op op_sub (pe_c G_law_next (hr.mono (by decide)) T.g__law_next (pa_cons (pv 0) (pa_cons (pe_int) pa_nil))) (pe_int)))
      (pss_one (ps_ret (pe_tup (pa_cons (pe_lst (pa_cons (pe_lc (own := [("letter", 5)]) rfl sc_Lguess.nd (pi_str (pv 1)) (blkOk_by (own := [("letter", 5)]) (N := N_Lguess) (sc := defScope s_Lguess) (by decide +kernel)) (fun _ _ _ _ _ => pg_name (i := 5) sc_Lguess.nd rfl (Or.inl rfl)) (fun _ _ _ _ _ => pts_nil) (fun _ _ _ _ _ => pv 4)) pa_nil)) (pa_cons (pe_lst (pa_cons (pe_int) pa_nil)) pa_nil))))))
    (pss_nil))
    (pss_cons (ps_if (pt_cmpR op_eq (pv 3) (pe_int) (nomark _))
    (pss_one (ps_ret (pe_tup (pa_cons (pe_lst (pa_cons (pe_lc (own := [("letter", 5)]) rfl sc_Lguess.nd (pi_str (pv 1)) (blkOk_by (own := [("letter", 5)]) (N := N_Lguess) (sc := defScope s_Lguess) (by decide +kernel)) (fun _ _ _ _ _ => pg_name (i := 5) sc_Lguess.nd rfl (Or.inl rfl)) (fun _ _ _ _ _ => pts_nil) (fun _ _ _ _ _ => pe_un un_neg (pe_int))) pa_nil)) (pa_cons (pe_lst pa_nil) pa_nil)))))
    (pss_nil))
    (pss_one (ps_ret (pe_c G_law_changed (hr.mono (by decide)) T.g__law_changed (pa_cons (pv 0) (pa_cons (pv 1) (pa_cons (pe_ix ix_q (pv 2) (pe_int) (fun _ _ => rfl)) (pa_cons (pe_ix ix_q (pv 2) (pe_int) (fun _ _ => rfl)) pa_nil)))))))))))), ?_⟩
    refine ⟨_, rfl, st, 6, ca, rfl, so, by decide, by decide, fun r H1 r0 r1 ow1 b1 => ?_⟩
    obtain ⟨a, b, hp, hA, hB⟩ := hP.mono b1.hid
    have hp1 := hid_same _ _ hp
    refine ⟨_, rfl, rfl, _, rfl, ite2 (fun c1 => ?_) (fun c1 => ?_)⟩
    · exact ⟨_, rfl, _, rfl, st, ca, l, rfl, ow1, lo, fun H2 p rows' ends' b2 ow2 hq mo2 => k _ p rows' ends' (b1.trans b2) ow2 hq mo2⟩
    refine ⟨_, rfl, rfl, _, rfl, ite2 (fun c2 => ?_) (fun c2 => ?_)⟩
    · exact ⟨_, rfl, _, rfl, _, _, _, .ref a, rfl, rfl, .t hp1, rfl, _, rfl, _, _, _, .ref b, rfl, rfl, .t hp1, rfl, st, ca, a, b, (cs l).length, rows, ends, rfl, ow1, hA, hB, mo, l4, fun H2 p rows' ends' b2 ow2 hq mo2 => k _ p rows' ends' (b1.trans b2) ow2 hq mo2⟩
    refine ⟨_, rfl, rfl, _, rfl, ite2 (fun c3 => ?_) (fun c3 => ?_)⟩
    · refine ⟨_, rfl, st, 2, ca, rfl, ow1, by decide, by decide, fun r2 H2 r20 r21 ow2 b2 => ⟨_, _, rfl, rfl, ?_⟩⟩
      refine ⟨_, rfl, l, rfl, fun D hD => lc_it walk_str (fun i H' => Same H2 H' ∧ H' D = some (.lst ((List.replicate i (r2 - 1)).map V.int))) ⟨sm_new hD, upd_same⟩ (fun _ _ _ _ => trivial) (fun i v H3 H4 hi ⟨e, h1⟩ ⟨e2, _⟩ => ?_) (fun H3 ⟨e3, h3⟩ => ?_)⟩
      · subst e2
        refine ⟨rfl, _, rfl, _, h1, by rw [List.length_map, List.length_replicate]; exact Nat.lt_of_lt_of_le (by omega : i < 1000) (by decide), sm_mut e hD, ?_⟩
        rw [upd_same, List.replicate_succ', List.map_append]; rfl
      · rw [hsz] at h3
        refine ⟨by show 1 ≤ sizeLine; decide, fun p hp => ⟨by show 1 ≤ sizeLine; decide, fun q hq => ⟨by show 2 ≤ sizeLine; decide, fun t ht => ?_⟩⟩⟩
        have s1 := sm_new (o := .lst [.ref D]) hp
        have s2 := sm_new (o := .lst [.int 0]) hq
        have s3 := sm_new (o := .tup [.ref p, .ref q]) ht
        have ow3 := ow2.mono e3
        have ow4 := ow3.mono s1
        have ow5 := ow4.mono s2
        refine k _ t [List.replicate (cs l).length (r2 - 1)] [0] ((b1.trans b2).trans (But.of_same (((e3.trans s1).trans s2).trans s3))) (ow5.mono s3) ⟨p, q, ?_, ⟨[D], ?_, ⟨?_, trivial⟩⟩, ?_⟩ (mok_one _ (by omega) (by omega) (.inr rfl))
        · rw [hid_ne (ow5.new ht).1]; exact upd_same
        · exact .l (by rw [hid_ne (ow3.new hp).1]; exact s3 _ _ (s2 _ _ upd_same))
        · exact .l (by rw [hid_ne (ow2.new hD).1]; exact s3 _ _ (s2 _ _ (s1 _ _ h3)))
        · rw [hid_ne (ow4.new hq).1]; exact s3 _ _ upd_same
    refine ⟨_, rfl, rfl, _, rfl, ite2 (fun c4 => ?_) (fun c4 => ?_)⟩
    · refine ⟨_, rfl, l, rfl, fun D hD => lc_it walk_str (fun i H' => Same H1 H' ∧ H' D = some (.lst ((List.replicate i (-1 : Int)).map V.int))) ⟨sm_new hD, upd_same⟩ (fun _ _ _ _ => trivial) (fun i v H3 H4 hi ⟨e, h1⟩ ⟨e2, _⟩ => ?_) (fun H3 ⟨e3, h3⟩ => ?_)⟩
      · subst e2
        refine ⟨rfl, _, rfl, _, h1, by rw [List.length_map, List.length_replicate]; exact Nat.lt_of_lt_of_le (by omega : i < 1000) (by decide), sm_mut e hD, ?_⟩
        rw [upd_same, List.replicate_succ', List.map_append]; rfl
      · rw [hsz] at h3
        refine ⟨by show 1 ≤ sizeLine; decide, fun p hp => ⟨Nat.zero_le _, fun q hq => ⟨by show 2 ≤ sizeLine; decide, fun t ht => ?_⟩⟩⟩
        have s1 := sm_new (o := .lst [.ref D]) hp
        have s2 := sm_new (o := .lst []) hq
        have s3 := sm_new (o := .tup [.ref p, .ref q]) ht
        have ow3 := ow1.mono e3
        have ow4 := ow3.mono s1
        have ow5 := ow4.mono s2
        refine k _ t [List.replicate (cs l).length (-1)] [] (b1.trans (But.of_same (((e3.trans s1).trans s2).trans s3))) (ow5.mono s3) ⟨p, q, ?_, ⟨[D], ?_, ⟨?_, trivial⟩⟩, ?_⟩ (mok_one _ (by omega) (by omega) (.inl rfl))
        · rw [hid_ne (ow5.new ht).1]; exact upd_same
        · exact .l (by rw [hid_ne (ow3.new hp).1]; exact s3 _ _ (s2 _ _ upd_same))
        · exact .l (by rw [hid_ne (ow1.new hD).1]; exact s3 _ _ (s2 _ _ (s1 _ _ h3)))
        · rw [hid_ne (ow4.new hq).1]; exact s3 _ _ upd_same
    · exact ⟨_, rfl, _, rfl, _, rfl, _, _, _, .ref a, rfl, rfl, .t hp1, rfl, _, rfl, _, _, _, .ref b, rfl, rfl, .t hp1, rfl, st, ca, a, b, l, rows, ends, rfl, ow1, hA, hB, mo, lo, fun H2 p rows' ends' b2 ow2 hq mo2 => k _ p rows' ends' (b1.trans b2) ow2 hq mo2⟩
end
end Fy

set_option Elab.async false
set_option linter.all false
set_option maxRecDepth 100000
set_option maxHeartbeats 4000000
namespace Fy
open PySem PySem.Spec PyProof.Rows L2
theorem sh_str {s : Str} (h : StrS s) : SeqAt.shaped (.str s) = true := by
  unfold SeqAt.shaped
  rw [Bool.and_eq_true]
  exact ⟨h.ok, by simp [PyData.depth]⟩
theorem sh_three {x : Str} {i : Nat} (h : StrS x) : SeqAt.shaped (.tuple [.str "word", .str x, .int (i : Nat)]) = true := by
  unfold SeqAt.shaped
  rw [Bool.and_eq_true]
  have h1 := h.ok
  have h2 : PyData.strOk "word" = true := by decide +kernel
  exact ⟨by simp [PyData.canLay0, PyData.canLayAll0, h1, h2], by simp [PyData.depth, PyData.depthAll]⟩
section
variable {P : Program} {w : World} {K : PySem.W.Frag} {mg : Str → Option Value} {base : Heap}
/-- an answer that is the due one -/
inductive SameAns (H : Hp) : V → V → Prop
  | non : SameAns H .non .non
  | str (s : Str) (hs : StrS s) : SameAns H (.str s) (.str s)
  | bl (b : Bool) : SameAns H (.bl b) (.bl b)
  | one {p q : Addr} (h : H p = some (.tup [.str "letters"])) (h' : H q = some (.tup [.str "letters"])) : SameAns H (.ref p) (.ref q)
  | three {p q : Addr} {x : Str} {i : Nat} (hx : StrS x) (h : H p = some (.tup [.str "word", .str x, .int (i : Nat)])) (h' : H q = some (.tup [.str "word", .str x, .int (i : Nat)])) : SameAns H (.ref p) (.ref q)
abbrev N_Lright : List Str := ["answer", "due"]
theorem sc_Lright : FnScope N_Lright ["answer", "due"] (defScope s_Lright) := ⟨rfl, rfl, rfl, by decide +kernel, rfl, by decide +kernel, by decide +kernel⟩
def spRight : Sp := fun vs H Q _ => ∃ x y, vs = [x, y] ∧ SameAns H x y ∧ Q (.bl true) H
theorem ok_Lright (T : Tx K mg) : Has P w K mg base CX0 2 (He.ga K "_law_right") ["answer", "due"] spRight := by
  have G_law_integer := ok_Linteger (P := P) (w := w) (base := base) T
  refine has_of T.f_Lright sc_Lright (fun _ _ _ _ _ _ us hl => match us, hl with | [_, _], _ => rfl) (fun vs H Q E h => ?_) (fun cdv A outer s H vs Q E hr h => ?_)
  · obtain ⟨x, y, rfl, _⟩ := h
    rfl
  · obtain ⟨x, y, rfl, hs, k⟩ := h
    refine ⟨_, (pss_cons (ps_if (pt_cmpR op_isN (pv 1) (pe_non) (nomark _))
    (pss_one (ps_ret (pe_cmpR op_isN (pv 0) (pe_non) (nomark _))))
    (pss_nil))
    (pss_cons (ps_if (pt_val (pe_callB call_isi (by rfl) T.z_isinstance (by decide +kernel) (pa_cons (pv 1) (pa_cons (pe_bltn (v := .ty "tuple") (by rfl) T.z_tuple (by decide +kernel) rfl) pa_nil))))
    (pss_cons (ps_if (PW.pt (pw_or (pt_not (pt_val (pe_callB call_isi (by rfl) T.z_isinstance (by decide +kernel) (pa_cons (pv 0) (pa_cons (pe_bltn (v := .ty "tuple") (by rfl) T.z_tuple (by decide +kernel) rfl) pa_nil))))) (pw_or1 (pt_cmpR op_ne (pe_callB call_lenQ (by rfl) T.z_len PySem.boot_len (pa_cons (pv 0) pa_nil)) (pe_callB call_lenQ (by rfl) T.z_len PySem.boot_len (pa_cons (pv 1) pa_nil)) (nomark _)))))
      (pss_one (ps_ret (pe_bl)))
      (pss_nil))
      (Evl.pss_cut (ps_if (PW.pt (pw_and (pt_cmpR op_eq (pe_callB call_lenQ (by rfl) T.z_len PySem.boot_len (pa_cons (pv 1) pa_nil)) (pe_int) (nomark _)) (pw_and1 (pt_not (PW.pt (pw_and (pt_val (pe_callB call_isi (by rfl) T.z_isinstance (by decide +kernel) (pa_cons (pe_ix ix_q (pv 0) (pe_int) (fun _ _ => rfl)) (pa_cons (pe_bltn (v := .ty "str") (by rfl) T.z_str (by decide +kernel) rfl) pa_nil)))) (pw_and1 (pt_val (pe_c G_law_integer (hr.mono (by decide)) T.g__law_integer (pa_cons (pe_ix ix_q (pv 0) (pe_int) (fun _ _ => rfl)) pa_nil))))))))))
      (pss_one (ps_ret (pe_bl)))
      (pss_nil))
      (pss_one (ps_ret (pe_cmpR (op_eqD hr.units) (pv 0) (pv 1) (nomark _))))))
    (pss_nil))
    (pss_cons (ps_if (pt_val (pe_callB call_isi (by rfl) T.z_isinstance (by decide +kernel) (pa_cons (pv 1) (pa_cons (pe_bltn (v := .ty "bool") (by rfl) T.z_bool (by decide +kernel) rfl) pa_nil))))
    (pss_one (ps_ret (pe_and (pe_callB call_isi (by rfl) T.z_isinstance (by decide +kernel) (pa_cons (pv 0) (pa_cons (pe_bltn (v := .ty "bool") (by rfl) T.z_bool (by decide +kernel) rfl) pa_nil))) (pe_one (pe_cmpR (op_eqD hr.units) (pv 0) (pv 1) (nomark _))))))
    (pss_nil))
    (pss_one (ps_ret (pe_and (pe_callB call_isi (by rfl) T.z_isinstance (by decide +kernel) (pa_cons (pv 0) (pa_cons (pe_bltn (v := .ty "str") (by rfl) T.z_str (by decide +kernel) rfl) pa_nil))) (pe_one (pe_cmpR (op_eqD hr.units) (pv 0) (pv 1) (nomark _))))))))), ?_⟩
    cases hs with
    | non => exact ⟨_, rfl, rfl, _, rfl, ite2 (fun _ => ⟨_, rfl, rfl, k⟩) (fun z => absurd rfl z)⟩
    | str s hs =>
      refine ⟨_, rfl, rfl, _, rfl, ite2 (fun z => by simp at z) (fun _ => ?_)⟩
      refine ⟨_, rfl, _, _, _, _, false, rfl, .ty _, .base (.str s), kit_ty (by decide +kernel), _, rfl, ite2 (fun z => by cases z) (fun _ => ?_)⟩
      refine ⟨_, rfl, _, _, _, _, false, rfl, .ty _, .base (.str s), kit_ty (by decide +kernel), _, rfl, ite2 (fun z => by cases z) (fun _ => ?_)⟩
      refine ⟨_, rfl, _, _, _, _, true, rfl, .ty _, .base (.str s), kit_ty (by decide +kernel), _, rfl, ite2 (fun _ => ?_) (fun z => absurd rfl z)⟩
      refine ⟨_, rfl, _, rfl, .str s, .str s, .str s, .str s, sh_str hs, sh_str hs, ?_⟩
      have : PyData.eqv (.str s) (.str s) = true := by simp [PyData.eqv, PyData.eqvAll]
      rw [this]; exact k
    | bl b =>
      refine ⟨_, rfl, rfl, _, rfl, ite2 (fun z => by simp at z) (fun _ => ?_)⟩
      refine ⟨_, rfl, _, _, _, _, false, rfl, .ty _, .base (.bl b), kit_ty (by decide +kernel), _, rfl, ite2 (fun z => by cases z) (fun _ => ?_)⟩
      refine ⟨_, rfl, _, _, _, _, true, rfl, .ty _, .base (.bl b), kit_ty (by decide +kernel), _, rfl, ite2 (fun _ => ?_) (fun z => absurd rfl z)⟩
      refine ⟨_, rfl, _, _, _, _, true, rfl, .ty _, .base (.bl b), kit_ty (by decide +kernel), _, rfl, ite2 (fun _ => ?_) (fun z => absurd rfl z)⟩
      refine ⟨_, rfl, _, rfl, .bool b, .bool b, .bl b, .bl b, rfl, rfl, ?_⟩
      have : PyData.eqv (.bool b) (.bool b) = true := by cases b <;> rfl
      rw [this]; exact k
    | @one p q h h' =>
      refine ⟨_, rfl, rfl, _, rfl, ite2 (fun z => by simp at z) (fun _ => ?_)⟩
      refine ⟨_, rfl, _, _, _, _, true, rfl, .ty _, .base (.tup h'), kit_ty (by decide +kernel), _, rfl, ite2 (fun _ => ?_) (fun z => absurd rfl z)⟩
      refine ⟨_, rfl, _, _, _, _, true, rfl, .ty _, .base (.tup h), kit_ty (by decide +kernel), _, rfl, ite2 (fun z => by cases z) (fun _ => ?_)⟩
      refine ⟨_, rfl, _, _, rfl, .t h, _, rfl, _, _, rfl, .t h', rfl, _, rfl, ite2 (fun z => by simp at z) (fun _ => ?_)⟩
      refine ⟨fun σ' H' => σ' = [some (.ref p), some (.ref q)] ∧ H = H', ?_, ?_⟩
      · exact ⟨_, rfl, _, _, rfl, .t h', rfl, _, rfl, ite2 (fun z => by simp at z) (fun _ => ite2 (fun z => by cases z) (fun _ => ⟨rfl, rfl⟩))⟩
      · rintro σ' H' ⟨rfl, rfl⟩
        refine ⟨_, rfl, _, rfl, _, _, .tup (.of h) (.cons (.str _) .nil), .tup (.of h') (.cons (.str _) .nil), by decide +kernel, by decide +kernel, ?_⟩
        have : PyData.eqv (.tuple [.str "letters"]) (.tuple [.str "letters"]) = true := by decide +kernel
        rw [this]; exact k
    | @three p q x i hx h h' =>
      refine ⟨_, rfl, rfl, _, rfl, ite2 (fun z => by simp at z) (fun _ => ?_)⟩
      refine ⟨_, rfl, _, _, _, _, true, rfl, .ty _, .base (.tup h'), kit_ty (by decide +kernel), _, rfl, ite2 (fun _ => ?_) (fun z => absurd rfl z)⟩
      refine ⟨_, rfl, _, _, _, _, true, rfl, .ty _, .base (.tup h), kit_ty (by decide +kernel), _, rfl, ite2 (fun z => by cases z) (fun _ => ?_)⟩
      refine ⟨_, rfl, _, _, rfl, .t h, _, rfl, _, _, rfl, .t h', rfl, _, rfl, ite2 (fun z => by simp at z) (fun _ => ?_)⟩
      refine ⟨fun σ' H' => σ' = [some (.ref p), some (.ref q)] ∧ H = H', ?_, ?_⟩
      · refine ⟨_, rfl, _, _, rfl, .t h', rfl, _, rfl, ite2 (fun _ => ?_) (fun z => absurd (by simp) z)⟩
        refine ⟨_, rfl, _, _, _, _, rfl, rfl, .t h, rfl, _, _, _, _, true, rfl, .ty _, .base (.str x), kit_ty (by decide +kernel), _, rfl, ite2 (fun _ => ?_) (fun z => absurd rfl z)⟩
        exact ⟨_, rfl, _, _, _, _, rfl, rfl, .t h, rfl, (i : Int), rfl, _, rfl, ite2 (fun z => by cases z) (fun _ => ⟨rfl, rfl⟩)⟩
      · rintro σ' H' ⟨rfl, rfl⟩
        refine ⟨_, rfl, _, rfl, _, _, .tup (.of h) (.cons (.str _) (.cons (.str _) (.cons (.int _) .nil))), .tup (.of h') (.cons (.str _) (.cons (.str _) (.cons (.int _) .nil))), sh_three hx, sh_three hx, ?_⟩
        have : PyData.eqv (.tuple [.str "word", .str x, .int (i : Nat)]) (.tuple [.str "word", .str x, .int (i : Nat)]) = true := by simp [PyData.eqv, PyData.eqvAll]
        rw [this]; exact k
end
end Fy

set_option Elab.async false
set_option linter.all false
set_option maxRecDepth 100000
set_option maxHeartbeats 4000000
namespace Fy
open PySem PySem.Spec PyProof.Rows L2
section
variable {P : Program} {w : World} {K : PySem.W.Frag} {mg : Str → Option Value} {base : Heap}
theorem pe_fldK {X : Cx} {K : PySem.W.Frag} {e : Expr} {ta : TE} {f : Str} {pos : Pos} (hK : X.K = K) (he : PE X e ta) (hb : attributeBase e f X.env (eval e X.env) = eval e X.env) : PE X (.Attribute e f pos) (tFld K ta f) := hK ▸ pe_fld he hb
abbrev N_Lstate : List Str := ["teacher", "letters", "asked", "guessed", "k"]
theorem sc_Lstate : FnScope N_Lstate ["teacher", "letters", "asked", "guessed"] (defScope s_Lstate) := ⟨rfl, rfl, rfl, by decide +kernel, rfl, by decide +kernel, by decide +kernel⟩
def spLstate (K : PySem.W.Frag) : Sp := fun vs H Q _ => ∃ (t a : Addr) (l : Str) (A : List (List Int)) (EA : List Int) (as : List Str) (g : Int), vs = [.ref t, .str l, .ref a, .int g] ∧ TeachAt K H t l A EA as g ∧ H a = some (.lst (as.map V.str)) ∧ as.length ≤ 1000 ∧ ∀ H', Same H H' → Q (.bl true) H'
theorem ok_Lstate (T : Tx K mg) : Has P w K mg base CX0 2 (He.ga K "_law_state") ["teacher", "letters", "asked", "guessed"] (spLstate K) := by
  have G_law_integer := ok_Linteger (P := P) (w := w) (base := base) T
  refine has_of T.f_Lstate sc_Lstate (fun _ _ _ _ _ _ us hl => match us, hl with | [_, _, _, _], _ => rfl) (fun vs H Q E h => ?_) (fun cdv A0 outer s H vs Q E hr h => ?_)
  · obtain ⟨t, a, l, A, EA, as, g, rfl, _⟩ := h
    rfl
  · obtain ⟨t, a, l, A, EA, as, g, rfl, ⟨dx, m, q, ht, hm, hq⟩, ha, few, k⟩ := h
    refine ⟨_, (pss_cons (ps_if (PW.pt (pw_or (pt_not (pt_val (pe_callB call_isi (by rfl) T.z_isinstance (by decide +kernel) (pa_cons (pe_fld (pv 0) rfl) (pa_cons (pe_bltn (v := .ty "str") (by rfl) T.z_str (by decide +kernel) rfl) pa_nil))))) (pw_or1 (pt_cmpR op_ne (pe_fld (pv 0) rfl) (pv 1) (nomark _)))))
    (pss_one (ps_ret (pe_bl)))
    (pss_nil))
    (pss_cons (ps_if (PW.pt (pw_or (pt_not (pt_val (pe_c G_law_integer (hr.mono (by decide)) T.g__law_integer (pa_cons (pe_fld (pv 0) rfl) pa_nil)))) (pw_or1 (pt_cmpR op_ne (pe_fld (pv 0) rfl) (pv 3) (nomark _)))))
    (pss_one (ps_ret (pe_bl)))
    (pss_nil))
    (pss_cons (ps_if (PW.pt (pw_or (pt_not (pt_val (pe_callB call_isi (by rfl) T.z_isinstance (by decide +kernel) (pa_cons (pe_fld (pv 0) rfl) (pa_cons (pe_bltn (v := .ty "tuple") (by rfl) T.z_tuple (by decide +kernel) rfl) pa_nil))))) (pw_or1 (pt_cmpR op_ne (pe_callB call_lenQ (by rfl) T.z_len PySem.boot_len (pa_cons (pe_fld (pv 0) rfl) pa_nil)) (pe_callB call_lenQ (by rfl) T.z_len PySem.boot_len (pa_cons (pv 2) pa_nil)) (nomark _)))))
    (pss_one (ps_ret (pe_bl)))
    (pss_nil))
    (pss_one (ps_ret (pe_callB (cr_all rfl) (by rfl) T.z_all (by decide +kernel) (pa_cons (by exact (pe_lc (te := tAndV _ _) (own := [("k", 4)]) rfl sc_Lstate.nd (pi_range1 (by rfl) T.z_range (pa_cons (pe_callB call_lenQ (by rfl) T.z_len PySem.boot_len (pa_cons (pv 2) pa_nil)) pa_nil)) (blkOk_by (own := [("k", 4)]) (N := N_Lstate) (sc := defScope s_Lstate) (by decide +kernel)) (fun _ _ _ _ _ => pg_name (i := 4) sc_Lstate.nd rfl (Or.inl rfl)) (fun _ _ _ _ _ => pts_nil) (fun _ _ _ _ _ => pe_and (pe_callB (r := rIsi K) call_isi (by rfl) T.z_isinstance (by decide +kernel) (pa_cons (pe_ix ix_q (pe_fldK (K := K) (by rfl) (pv 0) rfl) (pv 4) (fun _ _ => rfl)) (pa_cons (pe_bltn (v := .ty "str") (by rfl) T.z_str (by decide +kernel) rfl) pa_nil))) (pe_one (pe_cmpR op_eq (pe_ix ix_q (pe_fldK (K := K) (by rfl) (pv 0) rfl) (pv 4) (fun _ _ => rfl)) (pe_ix ix_q (pv 2) (pv 4) (fun _ _ => rfl)) (nomark _)))))) pa_nil))))))), ?_⟩
    refine ⟨_, rfl, t, _, dx, _, _, rfl, ht, T.c_Teacher, T.n_Teacher_letters, tf_letters _ _ _ _, _, _, _, _, true, rfl, .ty _, .base (.str l), kit_ty (by decide +kernel), _, rfl, ite2 (fun z => by cases z) (fun _ => ?_)⟩
    refine ⟨_, rfl, t, _, dx, _, _, rfl, ht, T.c_Teacher, T.n_Teacher_letters, tf_letters _ _ _ _, _, rfl, rfl, _, rfl, ite2 (fun z => by simp at z) (fun _ => ?_)⟩
    refine ⟨_, rfl, t, _, dx, _, _, rfl, ht, T.c_Teacher, T.n_Teacher_guessed, tf_gs _ _ _ _, g, rfl, _, rfl, ite2 (fun z => by cases z) (fun _ => ?_)⟩
    refine ⟨_, rfl, t, _, dx, _, _, rfl, ht, T.c_Teacher, T.n_Teacher_guessed, tf_gs _ _ _ _, _, rfl, rfl, _, rfl, ite2 (fun z => by simp at z) (fun _ => ?_)⟩
    refine ⟨_, rfl, t, _, dx, _, _, rfl, ht, T.c_Teacher, T.n_Teacher_asked, tf_ask _ _ _ _, _, _, _, _, true, rfl, .ty _, .base (.tup hq), kit_ty (by decide +kernel), _, rfl, ite2 (fun z => by cases z) (fun _ => ?_)⟩
    refine ⟨_, rfl, t, _, dx, _, _, rfl, ht, T.c_Teacher, T.n_Teacher_asked, tf_ask _ _ _ _, _, _, rfl, .t hq, _, rfl, _, _, rfl, .l ha, rfl, _, rfl, ite2 (fun z => by simp at z) (fun _ => ?_)⟩
    refine ⟨_, rfl, _, _, rfl, .l ha, ((as.map V.str).length : Int), rfl, by omega, by rw [List.length_map]; omega, fun D hD => lc_rng (n := (((as.map V.str).length : Int)).toNat) (fun i H' => Same H H' ∧ H' D = some (.lst ((List.replicate i true).map V.bl))) ⟨sm_new hD, upd_same⟩ (fun i H' hi ⟨e, h1⟩ => ?_) (fun H' ⟨e, h1⟩ => ?_)⟩
    · have hi' : i < as.length := by rw [List.length_map] at hi; omega
      have hx := List.getElem?_eq_getElem hi'
      generalize as[i] = x at hx
      have at1 : atI (as.map V.str) (i : Int) = some (.str x) := atI_nat (by rw [List.getElem?_map, hx]; rfl)
      refine ⟨rfl, _, rfl, t, _, dx, _, _, rfl, e _ _ ht, T.c_Teacher, T.n_Teacher_asked, tf_ask _ _ _ _, _, rfl, _, _, _, .str x, rfl, rfl, .t (e _ _ hq), at1, _, _, _, _, true, rfl, .ty _, .base (.str x), kit_ty (by decide +kernel), _, rfl, ite2 (fun _ => ?_) (fun z => absurd rfl z)⟩
      refine ⟨_, rfl, t, _, dx, _, _, rfl, e _ _ ht, T.c_Teacher, T.n_Teacher_asked, tf_ask _ _ _ _, _, rfl, _, _, _, .str x, rfl, rfl, .t (e _ _ hq), at1, _, rfl, _, rfl, _, _, _, .str x, rfl, rfl, .l (e _ _ ha), at1, rfl, ?_⟩
      rw [decide_eq_true rfl]
      refine ⟨_, h1, by rw [List.length_map, List.length_replicate]; exact Nat.lt_of_lt_of_le (by omega : i < 1000) (by decide), sm_mut e hD, ?_⟩
      rw [upd_same, List.replicate_succ', List.map_append]; rfl
    · refine ⟨D, _, rfl, .of h1, ?_⟩
      have : (List.replicate (((as.map V.str).length : Int)).toNat true).all id = true := by
        rw [List.all_eq_true]; intro x hx; exact (List.mem_replicate.mp hx).2
      rw [this]
      exact k _ e
end
end Fy

set_option Elab.async false
set_option linter.all false
set_option maxRecDepth 100000
set_option maxHeartbeats 4000000
namespace Fy
open PySem PySem.Spec PyProof.Rows L2
theorem But.at {z b : Addr} {H H' : Hp} {o o' : HO} (bt : But z H H') (hz : H z = some o) (hb : H b = some o') (n : o' ≠ o) : H' b = some o' := bt b o' (fun e => n (by subst e; rw [hz] at hb; cases hb; rfl)) hb
theorem mf_eq (l : Str) (a e : Addr) : mf l a e = ([("letters", .str l), ("arrows", .ref a), ("ends", .ref e)] : List (Str × V)) := by
  simp [mf, putF, sn "letters" "arrows", sn "letters" "ends", sn "arrows" "ends"]
theorem MachAt.butz {z : Addr} {H H' : Hp} {o : HO} {C p : Addr} {l : Str} {rows : List (List Int)} {ends : List Int} (bt : But z H H') (hz : H z = some o) (ho : ∀ xs, o ≠ .tup xs) (hi : ∀ dx a e, o ≠ .ins C dx (mf l a e)) (h : MachAt C H p l rows ends) : MachAt C H' p l rows ends := by
  obtain ⟨dx, a, e, h1, ⟨ps, h2, h3⟩, h4⟩ := h
  exact ⟨dx, a, e, bt.at hz h1 (fun y => hi _ _ _ y.symm), ⟨ps, bt.at hz h2 (fun y => ho _ y.symm), All2.imp (fun _ _ y => bt.at hz y (fun u => ho _ u.symm)) h3⟩, bt.at hz h4 (fun y => ho _ y.symm)⟩
theorem TeachAt.butz {K : PySem.W.Frag} {z : Addr} {H H' : Hp} {o : HO} {t : Addr} {l : Str} {A : List (List Int)} {EA : List Int} {as : List Str} {g : Int} (bt : But z H H') (hz : H z = some o) (ho : ∀ xs, o ≠ .tup xs) (hi : ∀ l dx a e, o ≠ .ins (CM K) dx (mf l a e)) (n : t ≠ z) (h : TeachAt K H t l A EA as g) : TeachAt K H' t l A EA as g := by
  obtain ⟨dx, m, q, h1, h2, h3⟩ := h
  exact ⟨dx, m, q, bt _ _ n h1, h2.butz bt hz ho (hi l), bt.at hz h3 (fun y => ho _ y.symm)⟩
theorem TeachAt.butl {K : PySem.W.Frag} {z : Addr} {H H' : Hp} {xs : List V} {t : Addr} {l : Str} {A : List (List Int)} {EA : List Int} {as : List Str} {g : Int} (bt : But z H H') (hz : H z = some (.lst xs)) (h : TeachAt K H t l A EA as g) : TeachAt K H' t l A EA as g :=
  h.butz bt hz (fun _ y => by cases y) (fun _ _ _ _ y => by cases y) (fun y => by obtain ⟨dx, m, q, h1, _⟩ := h; rw [y, hz] at h1; cases h1)
theorem MachAt.butl {z : Addr} {H H' : Hp} {xs : List V} {C p : Addr} {l : Str} {rows : List (List Int)} {ends : List Int} (bt : But z H H') (hz : H z = some (.lst xs)) (h : MachAt C H p l rows ends) : MachAt C H' p l rows ends :=
  h.butz bt hz (fun _ y => by cases y) (fun _ _ _ y => by cases y)
theorem TeachAt.butt {K : PySem.W.Frag} {z : Addr} {H H' : Hp} {t : Addr} {l l' : Str} {A A' : List (List Int)} {EA EA' : List Int} {as as' : List Str} {g g' : Int} (bt : But z H H') (hz : TeachAt K H z l' A' EA' as' g') (n : t ≠ z) (h : TeachAt K H t l A EA as g) : TeachAt K H' t l A EA as g := by
  obtain ⟨dx, m, q, h1, _⟩ := hz
  refine h.butz bt h1 (fun _ y => by cases y) (fun l dx a e y => ?_) n
  rw [mf_eq] at y
  have := congrArg (fun o => match o with | HO.ins _ _ fs => fs.length | _ => 0) y
  simp [tf] at this
theorem BadAt.unique {l x : Str} {i j : Nat} (h : BadAt l x i) (h' : BadAt l x j) : i = j := by
  obtain ⟨c, a, b, d⟩ := h
  obtain ⟨c', a', b', d'⟩ := h'
  rcases Nat.lt_trichotomy i j with y | y | y
  · exact absurd (d' i c y a) b
  · exact y
  · exact absurd (d j c' y a') b'
structure Side where
  l : Str
  p : Addr
  t : Addr
  R : List (List Int)
  E : List Int
  A : List (List Int)
  F : List Int
structure Fix (G : Hp) (st ask gs aL aH aT aP : Addr) (s : Nat → Side) (pool : List Str) : Prop where
  lo : ∀ k, LOk (s k).l
  mo : ∀ k, MOk (cs (s k).l).length (s k).R (s k).E
  to : ∀ k, MOk (cs (s k).l).length (s k).A (s k).F
  eq : ∀ k, ∀ ps : List Nat, (∀ p ∈ ps, p < (cs (s k).l).length) → acc (s k).A (s k).F ps = acc (s k).R (s k).E ps
  pr : ∀ k, PairAt G (s k).p (s k).R (s k).E
  gl : G aL = some (.lst [.str (s 0).l, .str (s 1).l])
  gh : G aH = some (.lst [.ref (s 0).p, .ref (s 1).p])
  gt : G aT = some (.lst [.ref (s 0).t, .ref (s 1).t])
  gp : G aP = some (.lst (pool.map V.str))
  nst : G st = none
  nask : G ask = none
  ngs : G gs = none
  nt : ∀ k, k < 2 → G (s k).t = none
  ne : (s 0).t ≠ (s 1).t
def up {α : Type} (f : Nat → α) (k : Nat) (v : α) : Nat → α := fun j => if j = k then v else f j
theorem up_at {α : Type} (f : Nat → α) (k : Nat) (v : α) : up f k v k = v := if_pos rfl
theorem up_ne {α : Type} {f : Nat → α} {k j : Nat} {v : α} (n : j ≠ k) : up f k v j = f j := if_neg n
structure Dyn (K : PySem.W.Frag) (G H : Hp) (st ca ask gs : Addr) (s : Nat → Side) (x : Nat → Addr) (as : Nat → List Str) (g : Nat → Int) (ta : Nat → List Str) (tg : Nat → Int) : Prop where
  sm : Same G H
  ow : Own H st ca
  ha : H ask = some (.lst [.ref (x 0), .ref (x 1)])
  hx : ∀ k, k < 2 → H (x k) = some (.lst ((as k).map V.str))
  hg : H gs = some (.lst [.int (g 0), .int (g 1)])
  te : ∀ k, k < 2 → TeachAt K H (s k).t (s k).l (s k).A (s k).F (ta k) (tg k)
  cg : ca ≠ gs
theorem strs_ne {as : List Str} {v : V} {xs : List V} (n : ∀ s, v ≠ .str s) : HO.lst (as.map V.str) ≠ HO.lst (v :: xs) := by
  intro e
  cases as with
  | nil => cases e
  | cons a as => simp only [List.map_cons, HO.lst.injEq, List.cons.injEq] at e; exact n _ e.1.symm
theorem ints_ne {as : List Int} {v : V} {xs : List V} (n : ∀ s, v ≠ .int s) : HO.lst (as.map V.int) ≠ HO.lst (v :: xs) := by
  intro e
  cases as with
  | nil => cases e
  | cons a as => simp only [List.map_cons, HO.lst.injEq, List.cons.injEq] at e; exact n _ e.1.symm
section
variable {K : PySem.W.Frag} {G H H' : Hp} {st ca ask gs aL aH aT aP : Addr} {s : Nat → Side} {x : Nat → Addr} {as ta : Nat → List Str} {g tg : Nat → Int} {pool : List Str}
theorem Dyn.same (d : Dyn K G H st ca ask gs s x as g ta tg) (e : Same H H') : Dyn K G H' st ca ask gs s x as g ta tg :=
  ⟨d.sm.trans e, d.ow.mono e, e _ _ d.ha, fun k h => e _ _ (d.hx k h), e _ _ d.hg, fun k h => (d.te k h).mono e, d.cg⟩
theorem same_but {z : Addr} (e : Same G H) (n : G z = none) (b : But z H H') : Same G H' := fun c o h => b c o (ne_of_none h n) (e c o h)
theorem Dyn.but (f : G st = none) (d : Dyn K G H st ca ask gs s x as g ta tg) (b : But st H H') (ow : Own H' st ca) : Dyn K G H' st ca ask gs s x as g ta tg := by
  obtain ⟨cells, i, a, j, h1, _⟩ := d.ow.ok
  exact ⟨same_but d.sm f b, ow, b.at h1 d.ha (fun y => by cases y), fun k h => b.at h1 (d.hx k h) (strs_ne fun _ y => by cases y), b.at h1 d.hg (fun y => by cases y), fun k h => (d.te k h).butl b h1, d.cg⟩
theorem Own.butz {z : Addr} (h : Own H st ca) (b : But z H H') (n1 : st ≠ z) (n2 : ca ≠ z) : Own H' st ca := let ⟨cells, i, a, j, h1, h2, h3⟩ := h.ok; ⟨cells, i, a, j, b _ _ n1 h1, b _ _ n2 h2, h3⟩
theorem Dyn.teach (f : Fix G st ask gs aL aH aT aP s pool) (d : Dyn K G H st ca ask gs s x as g ta tg) {k : Nat} (hk : k < 2) (b : But (s k).t H H') {as' : List Str} {g' : Int} (te : TeachAt K H' (s k).t (s k).l (s k).A (s k).F as' g') : Dyn K G H' st ca ask gs s x as g (up ta k as') (up tg k g') := by
  have hz := d.te k hk
  obtain ⟨dx, m, q, h1, _⟩ := id hz
  obtain ⟨cells, i, a, j, o1, o2, _⟩ := d.ow.ok
  refine ⟨same_but d.sm (f.nt k hk) b, d.ow.butz b (fun y => by rw [← y, o1] at h1; cases h1) (fun y => by rw [← y, o2] at h1; cases h1), b.at h1 d.ha (fun y => by cases y), fun k h => b.at h1 (d.hx k h) (fun y => by cases y), b.at h1 d.hg (fun y => by cases y), fun j hj => ?_, d.cg⟩
  by_cases n : j = k
  · subst n; rw [up_at, up_at]; exact te
  · rw [up_ne n, up_ne n]
    refine TeachAt.butt b hz ?_ (d.te j hj)
    have := f.ne
    rcases (by omega : (j = 0 ∧ k = 1) ∨ (j = 1 ∧ k = 0)) with ⟨rfl, rfl⟩ | ⟨rfl, rfl⟩
    · exact this
    · exact Ne.symm this
theorem pick2 {α : Type} {f : Nat → α} {k : Nat} (hk : k < 2) : atI [f 0, f 1] (k : Int) = some (f k) := by
  rcases (by omega : k = 0 ∨ k = 1) with rfl | rfl <;> rfl
theorem set2 {α : Type} {f : Nat → α} {k : Nat} (hk : k < 2) (v : α) : [f 0, f 1].set k v = [up f k v 0, up f k v 1] := by
  rcases (by omega : k = 0 ∨ k = 1) with rfl | rfl <;> simp [up]
theorem Dyn.setask (f : Fix G st ask gs aL aH aT aP s pool) (d : Dyn K G H st ca ask gs s x as g ta tg) {k : Nat} (hk : k < 2) {D : Addr} {as' : List Str} (hD : H D = some (.lst (as'.map V.str))) : Dyn K G (upd H ask (.lst [.ref (up x k D 0), .ref (up x k D 1)])) st ca ask gs s (up x k D) (up as k as') g ta tg := by
  have b : But ask H (upd H ask (.lst [.ref (up x k D 0), .ref (up x k D 1)])) := But.upd _ _ _
  obtain ⟨cells, i, a, j, o1, o2, o3, _⟩ := d.ow.ok
  refine ⟨same_but d.sm f.nask b, d.ow.butz b (fun y => by rw [y, d.ha] at o1; cases o1) (fun y => by rw [y, d.ha] at o2; cases cells <;> cases o2), upd_same, fun j hj => ?_, b.at d.ha d.hg (fun y => by cases y), fun j hj => (d.te j hj).butl b d.ha, d.cg⟩
  by_cases n : j = k
  · subst n; rw [up_at, up_at]; exact b.at d.ha hD (strs_ne fun _ y => by cases y)
  · rw [up_ne n, up_ne n]; exact b.at d.ha (d.hx j hj) (strs_ne fun _ y => by cases y)
theorem Dyn.setgs (f : Fix G st ask gs aL aH aT aP s pool) (d : Dyn K G H st ca ask gs s x as g ta tg) {k : Nat} {v : Int} : Dyn K G (upd H gs (.lst [.int (up g k v 0), .int (up g k v 1)])) st ca ask gs s x as (up g k v) ta tg := by
  have b : But gs H (upd H gs (.lst [.int (up g k v 0), .int (up g k v 1)])) := But.upd _ _ _
  obtain ⟨cells, i, a, j, o1, o2, o3, _⟩ := d.ow.ok
  exact ⟨same_but d.sm f.ngs b, d.ow.butz b (fun y => by rw [y, d.hg] at o1; cases o1) d.cg, b.at d.hg d.ha (fun y => by cases y), fun j hj => b.at d.hg (d.hx j hj) (strs_ne fun _ y => by cases y), upd_same, fun j hj => (d.te j hj).butl b d.hg, d.cg⟩
theorem Ints.refs_no {p a b : Addr} {ns : List Int} (h : H p = some (.tup [.ref a, .ref b])) : ¬ Ints H p ns := by
  rintro ⟨o, h1, h2⟩
  rw [h] at h1; cases h1
  have y : [V.ref a, V.ref b] = ns.map V.int := Option.some.inj h2
  cases ns <;> simp at y
theorem But.hid2 {z : Addr} (b : But z H H') : But z (Fy.hid st H) (Fy.hid st H') := fun c o n h => by
  unfold Fy.hid at h ⊢
  by_cases e : c = st
  · rw [if_pos e] at h; cases h
  · rw [if_neg e] at h ⊢; exact b c o n h
theorem PairAt.butz {z p : Addr} {R : List (List Int)} {E : List Int} {v : V} {xs : List V} (bt : But z H H') (hz : H z = some (.lst (v :: xs))) (hv : ∀ n, v ≠ .int n) (hv2 : ∀ p ns, v = .ref p → ¬ Ints H p ns) (h : PairAt H p R E) : PairAt H' p R E := by
  obtain ⟨a, b, h1, ⟨ps, h2, h3⟩, h4⟩ := h
  have na : a ≠ z := by
    rintro rfl
    obtain ⟨o, y1, y2⟩ := h2
    rw [hz] at y1; cases y1
    have y3 : v :: xs = ps.map V.ref := Option.some.inj y2
    cases ps with
    | nil => cases y3
    | cons q ps =>
      cases R with
      | nil => cases h3
      | cons r R => exact hv2 q r (List.cons.inj y3).1 h3.1
  obtain ⟨o, y1, y2⟩ := h2
  refine ⟨a, b, bt.at hz h1 (fun y => by cases y), ⟨ps, ⟨o, bt _ _ na y1, y2⟩, All2.imp (fun q r y => ?_) h3⟩, bt.at hz h4 (ints_ne hv)⟩
  obtain ⟨o, u1, u2⟩ := y
  refine ⟨o, bt _ _ ?_ u1, u2⟩
  rintro rfl
  rw [hz] at u1; cases u1
  have u3 : v :: xs = r.map V.int := Option.some.inj u2
  exact ints_ne hv (congrArg HO.lst u3.symm)
end
end Fy

set_option Elab.async false
set_option linter.all false
set_option maxRecDepth 100000
set_option maxHeartbeats 4000000
namespace Fy
open PySem PySem.Spec PyProof.Rows L2
def lpool : List Str := ["a", "ab", "abc", "acz", "b", "bq", "kmxz", "abcd"]
theorem lpool_ok : ∀ l ∈ lpool, LOk l := by
  intro l h
  simp only [lpool, List.mem_cons, List.not_mem_nil, or_false] at h
  rcases h with rfl | rfl | rfl | rfl | rfl | rfl | rfl | rfl <;> exact ⟨by decide +kernel, by decide +kernel, by decide +kernel, by decide +kernel⟩
theorem lpool_nd : lpool.Nodup := by decide +kernel
theorem lpool_pos (l : Str) : 0 < (lpool.filter fun x => decide (x ≠ l)).length := by
  by_cases h : l = "a"
  · have : ("ab" : Str) ∈ lpool.filter fun x => decide (x ≠ l) := List.mem_filter.mpr ⟨by decide +kernel, decide_eq_true (by rw [h]; decide +kernel)⟩
    exact List.length_pos_of_mem this
  · have : ("a" : Str) ∈ lpool.filter fun x => decide (x ≠ l) := List.mem_filter.mpr ⟨by decide +kernel, decide_eq_true (Ne.symm h)⟩
    exact List.length_pos_of_mem this
theorem wt_strS {l : Str} (lo : LOk l) (w : List Nat) : StrS (wt l w) := by
  intro c hc
  have : c ∈ w.map fun p => (cs l).getD p 0 := by simpa [wt] using hc
  obtain ⟨p, _, rfl⟩ := List.mem_map.mp this
  rw [List.getD_eq_getElem?_getD]
  cases h : (cs l)[p]? with
  | none => simp
  | some d => have := lo.small d (List.mem_of_getElem? h); simp; omega
theorem optW_same {H : Hp} {l : Str} (lo : LOk l) (r : Option (List Nat)) : SameAns H (optW l r) (optW l r) := by
  cases r with
  | none => exact .non
  | some w => exact .str _ (wt_strS lo w)
structure Bun (K : PySem.W.Frag) (H : Hp) (st ca aP aL aH aM : Addr) (l0 : Str) (p0 m0 : Addr) (R0 : List (List Int)) (E0 : List Int) (lt : List Str) (ht mt : List Addr) : Prop where
  ow : Own H st ca
  hP : H aP = some (.lst (lpool.map V.str))
  hL : H aL = some (.lst (.str l0 :: lt.map V.str))
  hH : H aH = some (.lst (.ref p0 :: ht.map V.ref))
  hM : H aM = some (.lst (.ref m0 :: mt.map V.ref))
  pa : PairAt (hid st H) p0 R0 E0
  ma : MachAt (CM K) H m0 l0 R0 E0
  nLP : aL ≠ aP
  nHM : aH ≠ aM
section
variable {K : PySem.W.Frag} {H H' : Hp} {st ca aP aL aH aM p0 m0 : Addr} {l0 : Str} {R0 : List (List Int)} {E0 : List Int} {lt : List Str} {ht mt : List Addr}
theorem Bun.same (b : Bun K H st ca aP aL aH aM l0 p0 m0 R0 E0 lt ht mt) (e : Same H H') : Bun K H' st ca aP aL aH aM l0 p0 m0 R0 E0 lt ht mt :=
  ⟨b.ow.mono e, e _ _ b.hP, e _ _ b.hL, e _ _ b.hH, e _ _ b.hM, b.pa.mono (But.of_same e).hid, b.ma.mono e, b.nLP, b.nHM⟩
theorem refs_ne {as : List Addr} {p : Addr} {ca : Addr} {i : Int} {xs : List V} : HO.lst (.ref p :: as.map V.ref) ≠ HO.lst (.ref ca :: .int i :: xs) := by
  intro e
  cases as with
  | nil => cases e
  | cons a as => simp at e
theorem Bun.but (d : Bun K H st ca aP aL aH aM l0 p0 m0 R0 E0 lt ht mt) (b : But st H H') (ow : Own H' st ca) : Bun K H' st ca aP aL aH aM l0 p0 m0 R0 E0 lt ht mt := by
  obtain ⟨cells, i, a, j, h1, _⟩ := d.ow.ok
  exact ⟨ow, b.at h1 d.hP (strs_ne fun _ y => by cases y), b.at h1 d.hL (fun y => by cases y), b.at h1 d.hH refs_ne, b.at h1 d.hM refs_ne, d.pa.mono b.hid, d.ma.butl b h1, d.nLP, d.nHM⟩
theorem Bun.neH (d : Bun K H st ca aP aL aH aM l0 p0 m0 R0 E0 lt ht mt) : aH ≠ st ∧ aM ≠ st ∧ aL ≠ st := by
  obtain ⟨cells, i, a, j, h1, _⟩ := d.ow.ok
  refine ⟨?_, ?_, ?_⟩
  · rintro rfl; exact refs_ne (Option.some.inj (d.hH.symm.trans h1))
  · rintro rfl; exact refs_ne (Option.some.inj (d.hM.symm.trans h1))
  · rintro rfl; have := d.hL.symm.trans h1; cases this
theorem Bun.own (d : Bun K H st ca aP aL aH aM l0 p0 m0 R0 E0 lt ht mt) {z : Addr} {v : V} {xs : List V} (b : But z H H') (n : st ≠ z) (hz : H z = some (.lst (v :: xs))) (hv : ∀ n, v ≠ .int n) : Own H' st ca := by
  obtain ⟨cells, i, a, j, h1, h2, _⟩ := d.ow.ok
  exact d.ow.butz b n (fun y => by rw [y, hz] at h2; exact ints_ne hv (Option.some.inj h2).symm)
theorem Bun.pL (d : Bun K H st ca aP aL aH aM l0 p0 m0 R0 E0 lt ht mt) (b : But aL H H') {p : Addr} {R : List (List Int)} {E : List Int} (h : PairAt (hid st H) p R E) : PairAt (hid st H') p R E :=
  h.butz (v := .str l0) (xs := lt.map V.str) b.hid2 (by rw [hid_ne d.neH.2.2]; exact d.hL) (fun _ y => by cases y) (fun _ _ y => by cases y)
theorem Bun.pH (d : Bun K H st ca aP aL aH aM l0 p0 m0 R0 E0 lt ht mt) (b : But aH H H') {p : Addr} {R : List (List Int)} {E : List Int} (h : PairAt (hid st H) p R E) : PairAt (hid st H') p R E :=
  h.butz (v := .ref p0) (xs := ht.map V.ref) b.hid2 (by rw [hid_ne d.neH.1]; exact d.hH) (fun _ y => by cases y) (fun q ns y => by cases y; obtain ⟨_, _, h1, _⟩ := d.pa; exact Ints.refs_no h1)
theorem Bun.pM (d : Bun K H st ca aP aL aH aM l0 p0 m0 R0 E0 lt ht mt) (b : But aM H H') {p : Addr} {R : List (List Int)} {E : List Int} (h : PairAt (hid st H) p R E) : PairAt (hid st H') p R E :=
  h.butz (v := .ref m0) (xs := mt.map V.ref) b.hid2 (by rw [hid_ne d.neH.2.1]; exact d.hM) (fun _ y => by cases y) (fun q ns y => by
    cases y
    obtain ⟨dx, a, e, h1, _⟩ := d.ma
    rintro ⟨o, o1, o2⟩
    have := hid_same _ _ o1
    rw [h1] at this; cases this
    cases o2)
theorem Bun.setL (d : Bun K H st ca aP aL aH aM l0 p0 m0 R0 E0 lt ht mt) (lt' : List Str) : Bun K (upd H aL (.lst (.str l0 :: lt'.map V.str))) st ca aP aL aH aM l0 p0 m0 R0 E0 lt' ht mt :=
  have b : But aL H (upd H aL (.lst (.str l0 :: lt'.map V.str))) := But.upd _ _ _
  ⟨d.own b (Ne.symm d.neH.2.2) d.hL (fun _ y => by cases y), b _ _ (Ne.symm d.nLP) d.hP, upd_same, b.at d.hL d.hH (fun y => by cases y), b.at d.hL d.hM (fun y => by cases y), d.pL b d.pa, d.ma.butl b d.hL, d.nLP, d.nHM⟩
theorem Bun.setH (d : Bun K H st ca aP aL aH aM l0 p0 m0 R0 E0 lt ht mt) (ht' : List Addr) : Bun K (upd H aH (.lst (.ref p0 :: ht'.map V.ref))) st ca aP aL aH aM l0 p0 m0 R0 E0 lt ht' mt :=
  have b : But aH H (upd H aH (.lst (.ref p0 :: ht'.map V.ref))) := But.upd _ _ _
  ⟨d.own b (Ne.symm d.neH.1) d.hH (fun _ y => by cases y), b.at d.hH d.hP (strs_ne fun _ y => by cases y), b.at d.hH d.hL (fun y => by cases y), upd_same, b _ _ (Ne.symm d.nHM) d.hM, d.pH b d.pa, d.ma.butl b d.hH, d.nLP, d.nHM⟩
theorem Bun.setM (d : Bun K H st ca aP aL aH aM l0 p0 m0 R0 E0 lt ht mt) (mt' : List Addr) : Bun K (upd H aM (.lst (.ref m0 :: mt'.map V.ref))) st ca aP aL aH aM l0 p0 m0 R0 E0 lt ht mt' :=
  have b : But aM H (upd H aM (.lst (.ref m0 :: mt'.map V.ref))) := But.upd _ _ _
  ⟨d.own b (Ne.symm d.neH.2.1) d.hM (fun _ y => by cases y), b.at d.hM d.hP (strs_ne fun _ y => by cases y), b.at d.hM d.hL (fun y => by cases y), b _ _ d.nHM d.hH, upd_same, d.pM b d.pa, d.ma.butl b d.hM, d.nLP, d.nHM⟩
end
end Fy

set_option Elab.async false
set_option linter.all false
set_option maxRecDepth 100000
set_option maxHeartbeats 4000000
namespace Fy
open PySem PySem.Spec PyProof.Rows L2
def two {α : Type} (a b : α) : Nat → α := fun k => match k with | 0 => a | _ + 1 => b
def cut5 (st t0 t1 ask gs : Addr) (H : Hp) : Hp := fun b => if b = st ∨ b = t0 ∨ b = t1 ∨ b = ask ∨ b = gs then none else H b
theorem cut5_sm {st t0 t1 ask gs : Addr} {H : Hp} : Same (cut5 st t0 t1 ask gs H) H := fun b o h => by
  unfold cut5 at h
  split at h
  · cases h
  · exact h
theorem cut5_ne {st t0 t1 ask gs b : Addr} {H : Hp} (n1 : b ≠ st) (n2 : b ≠ t0) (n3 : b ≠ t1) (n4 : b ≠ ask) (n5 : b ≠ gs) : cut5 st t0 t1 ask gs H b = H b := by
  unfold cut5; rw [if_neg (by simp [n1, n2, n3, n4, n5])]
theorem cut5_no {st t0 t1 ask gs b : Addr} {H : Hp} (h : b = st ∨ b = t0 ∨ b = t1 ∨ b = ask ∨ b = gs) : cut5 st t0 t1 ask gs H b = none := by
  unfold cut5; rw [if_pos h]
theorem up_self {α : Type} (f : Nat → α) (k : Nat) : up f k (f k) = f := by
  funext j; by_cases h : j = k
  · subst h; exact up_at _ _ _
  · exact up_ne h
theorem start_of {K : PySem.W.Frag} {Hm Hz : Hp} {st ca aP aL aH aM aT t0 t1 x0 x1 ask gs p0 m0 p1 m1 : Addr} {l0 l1 : Str} {R0 A0 R1 A1 : List (List Int)} {E0 F0 E1 F1 : List Int}
    (B : Bun K Hm st ca aP aL aH aM l0 p0 m0 R0 E0 [l1] [p1] [m1]) (pa1 : PairAt (hid st Hm) p1 R1 E1) (lo0 : LOk l0) (lo1 : LOk l1) (mo0 : MOk (cs l0).length R0 E0) (mo1 : MOk (cs l1).length R1 E1)
    (to0 : MOk (cs l0).length A0 F0) (to1 : MOk (cs l1).length A1 F1) (eq0 : ∀ ps : List Nat, (∀ p ∈ ps, p < (cs l0).length) → acc A0 F0 ps = acc R0 E0 ps) (eq1 : ∀ ps : List Nat, (∀ p ∈ ps, p < (cs l1).length) → acc A1 F1 ps = acc R1 E1 ps)
    (e : Same Hm Hz) (n0 : Hm t0 = none) (n1 : Hm t1 = none) (nk : Hm ask = none) (ng : Hm gs = none) (zT : Hz aT = some (.lst [.ref t0, .ref t1])) (zx0 : Hz x0 = some (.lst [])) (zx1 : Hz x1 = some (.lst []))
    (zk : Hz ask = some (.lst [.ref x0, .ref x1])) (zg : Hz gs = some (.lst [.int 0, .int 0])) (nTk : aT ≠ ask) (ne : t0 ≠ t1) (ta0 : TeachAt K Hz t0 l0 A0 F0 [] 0) (ta1 : TeachAt K Hz t1 l1 A1 F1 [] 0) :
    ∃ (G : Hp) (s : Nat → Side) (x : Nat → Addr), Fix G st ask gs aL aH aT aP s lpool ∧ Dyn K G Hz st ca ask gs s x (fun _ => []) (fun _ => 0) (fun _ => []) (fun _ => 0) := by
  have ow := B.ow.mono e
  obtain ⟨cells, i, a, j, o1, o2, _⟩ := id ow.ok
  have hs : Same (hid st Hm) (cut5 st t0 t1 ask gs Hz) := fun b o h => by
    have n : b ≠ st := by rintro rfl; rw [hid_at] at h; cases h
    have hb := hid_same _ _ h
    rw [cut5_ne n (ne_of_none hb n0) (ne_of_none hb n1) (ne_of_none hb nk) (ne_of_none hb ng)]
    exact e _ _ hb
  have hl : ∀ {b o}, Hm b = some o → b ≠ st → cut5 st t0 t1 ask gs Hz b = some o := fun {b o} hb n => hs _ _ (by rw [hid_ne n]; exact hb)
  obtain ⟨nH, nM, nL⟩ := B.neH
  have nP : aP ≠ st := by
    rintro rfl
    obtain ⟨cells, i, a, j, o1, o2, _⟩ := id B.ow.ok
    exact strs_ne (fun _ y => by cases y) (Option.some.inj (B.hP.symm.trans o1))
  obtain ⟨_, _, _, i0, _⟩ := id ta0
  obtain ⟨_, _, _, i1, _⟩ := id ta1
  have nTt0 : aT ≠ t0 := by rintro rfl; rw [zT] at i0; cases i0
  have nTt1 : aT ≠ t1 := by rintro rfl; rw [zT] at i1; cases i1
  have nTs : aT ≠ st := by rintro rfl; rw [zT] at o1; cases o1
  have nTg : aT ≠ gs := by rintro rfl; rw [zT] at zg; cases zg
  have ncg : ca ≠ gs := by obtain ⟨_, _, _, _, _, h, _⟩ := B.ow.ok; exact ne_of_none h ng
  refine ⟨cut5 st t0 t1 ask gs Hz, two ⟨l0, p0, t0, R0, E0, A0, F0⟩ ⟨l1, p1, t1, R1, E1, A1, F1⟩, two x0 x1, ⟨?_, ?_, ?_, ?_, ?_, hl B.hL nL, hl B.hH nH, ?_, hl B.hP nP, cut5_no (by simp), cut5_no (by simp), cut5_no (by simp), ?_, ne⟩, ⟨cut5_sm, ow, zk, ?_, zg, ?_, ncg⟩⟩
  · intro k; cases k; exact lo0; exact lo1
  · intro k; cases k; exact mo0; exact mo1
  · intro k; cases k; exact to0; exact to1
  · intro k; cases k; exact eq0; exact eq1
  · intro k; cases k; exact B.pa.mono hs; exact pa1.mono hs
  · rw [cut5_ne nTs nTt0 nTt1 nTk nTg]; exact zT
  · intro k _; cases k; exact cut5_no (.inr (.inl rfl)); exact cut5_no (.inr (.inr (.inl rfl)))
  · intro k _; cases k; exact zx0; exact zx1
  · intro k _; cases k; exact ta0; exact ta1
end Fy

set_option Elab.async false
set_option linter.all false
set_option maxRecDepth 100000
set_option maxHeartbeats 8000000
namespace Fy
open PySem PySem.Spec PyProof.Rows L2
section
variable {P : Program} {w : World} {K : PySem.W.Frag} {mg : Str → Option Value} {base : Heap}
abbrev N_law : List Str := ["script", "state", "pool", "letters", "hidden", "machines", "choice", "teachers", "asked", "guessed", "one", "turn", "k", "word", "due", "answer", "others", "signs", "guess"]
theorem sc_law : FnScope N_law ["script"] (defScope s_law) := ⟨rfl, rfl, rfl, by decide +kernel, rfl, by decide +kernel, by decide +kernel⟩
def spLaw (K : PySem.W.Frag) : Sp := fun vs H Q _ => ∃ (a : Addr) (ns : List Int), vs = [.ref a] ∧ SqL K H a (ns.map V.int) ∧ ns.length ≤ 1000 ∧ ∀ H', Q (.bl true) H'
theorem fn_of {x qual : Str} {st : Stmt} {f : Addr} {N ps : List Str} {k : Nat} {sp : Sp} {fd : FuncData} (F : FunD K x qual (defArgs st) (defBody st) (defScope st) [] [] f fd) (S : FnScope N ps (defScope st))
    (len : ∀ vs H Q E, sp vs H Q E → vs.length = ps.length)
    (hb : ∀ (cdv : Value) (A : Around) (outer : List Env) (s : Shared) (H : Hp) (vs : List V) (Q : VK) (E : XK), Room k (A.deeper (envOfC qual (defScope st) s.heap.objs.size f cdv)) → sp vs H Q E →
      ∃ t, PSs (cxOf CX0 P w K mg base N qual (defScope st) f cdv A outer s H E).nox (defBody st) t ∧ t { nx := fun _ H' => Q .non H', rt := Q } (start N vs) H) : FnOk P w K mg base CX0 (k + 1) f fd ps sp :=
  F.ok S len fun cdv A outer s H vs Q E hr h => let ⟨t, h1, h2⟩ := hb cdv A outer s H vs Q E hr h; ⟨t, h1.nox, h2⟩
theorem ok_law (TQ : Tq P K mg) {fd : FuncData} (F : FunD K "law" "law" (defArgs s_law) (defBody s_law) (defScope s_law) [] [] (He.ga K "law") fd) : FnOk P w K mg base CX0 9 (He.ga K "law") fd ["script"] (spLaw K) := by
  have T := TQ.t
  have G_law_next := ok_Lnext (P := P) (w := w) (base := base) T
  have G_law_start := ok_Lstart (P := P) (w := w) (base := base) T
  have G_law_hidden := ok_Lhidden (P := P) (w := w) (base := base) T
  have G_law_made := ok_Lmade (P := P) (w := w) (base := base) T
  have G_Teacher_init := ok_Teacher_init (P := P) (w := w) (base := base) T
  have G_law_state := ok_Lstate (P := P) (w := w) (base := base) T
  have G_law_word := ok_Lword (P := P) (w := w) (base := base) T
  have G_law_spoilt := ok_Lspoilt (P := P) (w := w) (base := base) T
  have G_law_due := ok_Ldue (P := P) (w := w) (base := base) T
  have G_law_holds := ok_Lholds (P := P) (w := w) (base := base) TQ
  have G_law_refute := ok_Lrefute (P := P) (w := w) (base := base) TQ
  have G_law_guess := ok_Lguess (P := P) (w := w) (base := base) T
  have G_law_parting := ok_Lparting (P := P) (w := w) (base := base) T
  have G_law_right := ok_Lright (P := P) (w := w) (base := base) T
  refine fn_of (k := 8) F sc_law (fun vs H Q E h => ?_) (fun cdv A0 outer s H vs Q E hr h => ?_)
  · obtain ⟨a, ns, rfl, _⟩ := h
    rfl
  · obtain ⟨a, ns, rfl, hs, few, k⟩ := h
    refine ⟨_, (pss_cons (ps_set (i := 1) sc_law.nd rfl (Or.inl rfl) (pe_c G_law_start (hr.mono (by decide)) T.g__law_start (pa_cons (pv 0) pa_nil)))
    (pss_cons (ps_set (i := 2) sc_law.nd rfl (Or.inl rfl) (pe_lst (pa_cons (pe_str) (pa_cons (pe_str) (pa_cons (pe_str) (pa_cons (pe_str) (pa_cons (pe_str) (pa_cons (pe_str) (pa_cons (pe_str) (pa_cons (pe_str) pa_nil))))))))))
    (pss_cons (ps_set (i := 3) sc_law.nd rfl (Or.inr rfl) (pe_lst (pa_cons (pe_ix ix_q (pv 2) (pe_c G_law_next (hr.mono (by decide)) T.g__law_next (pa_cons (pv 1) (pa_cons (pe_callB call_lenQ (by rfl) T.z_len PySem.boot_len (pa_cons (pv 2) pa_nil)) pa_nil))) (fun _ _ => rfl)) pa_nil)))
    (pss_cons (ps_set (i := 4) sc_law.nd rfl (Or.inl rfl) (pe_lst (pa_cons (pe_c G_law_hidden (hr.mono (by decide)) T.g__law_hidden (pa_cons (pv 1) (pa_cons (pe_ix ix_q (pv 3) (pe_int) (fun _ _ => rfl)) pa_nil))) pa_nil)))
    (pss_cons (ps_set (i := 5) sc_law.nd rfl (Or.inl rfl) (pe_lst (pa_cons (pe_c G_law_made (hr.mono (by decide)) T.g__law_made (pa_cons (pe_ix ix_q (pv 3) (pe_int) (fun _ _ => rfl)) (pa_cons (pe_ix ix_q (pv 4) (pe_int) (fun _ _ => rfl)) pa_nil))) pa_nil)))
    (pss_cons (ps_set (i := 6) sc_law.nd rfl (Or.inl rfl) (pe_c G_law_next (hr.mono (by decide)) T.g__law_next (pa_cons (pv 1) (pa_cons (pe_int) pa_nil))))
    (Evl.pss_cut (ps_if (pt_cmpR op_eq (pv 6) (pe_int) (nomark _))
    (pss_cons (ps_expr (pe_bm PySem.F.plainAttrs_list PySem.F.slot_list_append PySem.F.type_list_append mt_append (pv 3) (pa_cons (pe_ix ix_q (pv 3) (pe_int) (fun _ _ => rfl)) pa_nil)))
      (pss_cons (ps_expr (pe_bm PySem.F.plainAttrs_list PySem.F.slot_list_append PySem.F.type_list_append mt_append (pv 4) (pa_cons (pe_ix ix_q (pv 4) (pe_int) (fun _ _ => rfl)) pa_nil)))
      (pss_one (ps_expr (pe_bm PySem.F.plainAttrs_list PySem.F.slot_list_append PySem.F.type_list_append mt_append (pv 5) (pa_cons (pe_ix ix_q (pv 5) (pe_int) (fun _ _ => rfl)) pa_nil))))))
    (pss_cons (ps_expr (pe_bm PySem.F.plainAttrs_list PySem.F.slot_list_append PySem.F.type_list_append mt_append (pv 3) (pa_cons (pe_ix ix_q (pv 3) (pe_int) (fun _ _ => rfl)) pa_nil)))
      (Evl.pss_cut (ps_if (pt_cmpR op_eq (pv 6) (pe_int) (nomark _))
      (pss_one (ps_asg (pe_ix ix_q (pv 2) (pe_c G_law_next (hr.mono (by decide)) T.g__law_next (pa_cons (pv 1) (pa_cons (pe_callB call_lenQ (by rfl) T.z_len PySem.boot_len (pa_cons (pv 2) pa_nil)) pa_nil))) (fun _ _ => rfl)) (pg_sub (pv 3) (pe_int) set_list)))
      (pss_nil))
      (pss_cons (ps_expr (pe_bm PySem.F.plainAttrs_list PySem.F.slot_list_append PySem.F.type_list_append mt_append (pv 4) (pa_cons (pe_c G_law_hidden (hr.mono (by decide)) T.g__law_hidden (pa_cons (pv 1) (pa_cons (pe_ix ix_q (pv 3) (pe_int) (fun _ _ => rfl)) pa_nil))) pa_nil)))
      (pss_one (ps_expr (pe_bm PySem.F.plainAttrs_list PySem.F.slot_list_append PySem.F.type_list_append mt_append (pv 5) (pa_cons (pe_c G_law_made (hr.mono (by decide)) T.g__law_made (pa_cons (pe_ix ix_q (pv 3) (pe_int) (fun _ _ => rfl)) (pa_cons (pe_ix ix_q (pv 4) (pe_int) (fun _ _ => rfl)) pa_nil))) pa_nil))))))))
    (pss_cons (ps_set (i := 7) sc_law.nd rfl (Or.inl rfl) (pe_lst (pa_cons (pe_mk T.m_Teacher G_Teacher_init (hr.mono (by decide)) T.g_Teacher (pa_cons (pe_ix ix_q (pv 5) (pe_int) (fun _ _ => rfl)) pa_nil)) (pa_cons (pe_mk T.m_Teacher G_Teacher_init (hr.mono (by decide)) T.g_Teacher (pa_cons (pe_ix ix_q (pv 5) (pe_int) (fun _ _ => rfl)) pa_nil)) pa_nil))))
    (pss_cons (ps_set (i := 8) sc_law.nd rfl (Or.inl rfl) (pe_lst (pa_cons (pe_lst pa_nil) (pa_cons (pe_lst pa_nil) pa_nil))))
    (pss_cons (ps_set (i := 9) sc_law.nd rfl (Or.inl rfl) (pe_lst (pa_cons (pe_int) (pa_cons (pe_int) pa_nil))))
    (pss_cons (ps_for PassesOwn.never rfl (pi_range1 (by rfl) T.z_range (pa_cons (pe_int) pa_nil)) (pg_name (i := 10) sc_law.nd rfl (Or.inl rfl))
    (pss_one (ps_if (pt_not (pt_val (pe_c G_law_state (hr.mono (by decide)) T.g__law_state (pa_cons (pe_ix ix_q (pv 7) (pv 10) (fun _ _ => rfl)) (pa_cons (pe_ix ix_q (pv 3) (pv 10) (fun _ _ => rfl)) (pa_cons (pe_ix ix_q (pv 8) (pv 10) (fun _ _ => rfl)) (pa_cons (pe_ix ix_q (pv 9) (pv 10) (fun _ _ => rfl)) pa_nil)))))))
      (pss_one (ps_ret (pe_bl)))
      (pss_nil))))
    (pss_cons (ps_for PassesOwn.never rfl (pi_range1 (by rfl) T.z_range (pa_cons (pe_op op_add (pe_int) (pe_c G_law_next (hr.mono (by decide)) T.g__law_next (pa_cons (pv 1) (pa_cons (pe_int) pa_nil)))) pa_nil)) (pg_name (i := 11) sc_law.nd rfl (Or.inl rfl))
    (pss_cons (ps_set (i := 12) sc_law.nd rfl (Or.inr rfl) (pe_c G_law_next (hr.mono (by decide)) T.g__law_next (pa_cons (pv 1) (pa_cons (pe_int) pa_nil))))
      (pss_cons (ps_set (i := 6) sc_law.nd rfl (Or.inl rfl) (pe_c G_law_next (hr.mono (by decide)) T.g__law_next (pa_cons (pv 1) (pa_cons (pe_int) pa_nil))))
      (Evl.pss_cut (ps_if (pt_cmpR op_lt (pv 6) (pe_int) (nomark _))
      (pss_cons (ps_set (i := 13) sc_law.nd rfl (Or.inl rfl) (pe_c G_law_word (hr.mono (by decide)) T.g__law_word (pa_cons (pv 1) (pa_cons (pe_ix ix_q (pv 3) (pv 12) (fun _ _ => rfl)) (pa_cons (pe_c G_law_next (hr.mono (by decide)) T.g__law_next (pa_cons (pv 1) (pa_cons (pe_int) pa_nil))) pa_nil)))))
        (Evl.pss_cut (ps_if (pt_cmpR op_eq (pv 6) (pe_int) (nomark _))
        (pss_one (ps_set (i := 13) sc_law.nd rfl (Or.inl rfl) (pe_c G_law_spoilt (hr.mono (by decide)) T.g__law_spoilt (pa_cons (pv 1) (pa_cons (pe_ix ix_q (pv 3) (pv 12) (fun _ _ => rfl)) (pa_cons (pv 13) pa_nil))))))
        (pss_nil))
        (Evl.pss_cut (ps_if (PW.pt (pw_and (pt_cmpR op_eq (pv 6) (pe_int) (nomark _)) (pw_and1 (pt_cmpR op_eq (pe_c G_law_next (hr.mono (by decide)) T.g__law_next (pa_cons (pv 1) (pa_cons (pe_int) pa_nil))) (pe_int) (nomark _)))))
        (pss_one (ps_set (i := 13) sc_law.nd rfl (Or.inl rfl) (pe_c G_law_word (hr.mono (by decide)) T.g__law_word (pa_cons (pv 1) (pa_cons (pe_ix ix_q (pv 3) (pv 12) (fun _ _ => rfl)) (pa_cons (pe_op op_add (pe_int) (pe_c G_law_next (hr.mono (by decide)) T.g__law_next (pa_cons (pv 1) (pa_cons (pe_int) pa_nil)))) pa_nil))))))
        (pss_nil))
        (pss_cons (ps_set (i := 14) sc_law.nd rfl (Or.inl rfl) (pe_c G_law_due (hr.mono (by decide)) T.g__law_due (pa_cons (pe_ix ix_q (pv 4) (pv 12) (fun _ _ => rfl)) (pa_cons (pe_ix ix_q (pv 3) (pv 12) (fun _ _ => rfl)) (pa_cons (pv 13) pa_nil)))))
        (pss_cons (ps_set (i := 15) sc_law.nd rfl (Or.inl rfl) (pe_c G_law_holds (hr.mono (by decide)) T.g__law_holds (pa_cons (pe_ix ix_q (pv 7) (pv 12) (fun _ _ => rfl)) (pa_cons (pv 13) pa_nil))))
        (pss_one (ps_if (pt_cmpR op_gt (pv 6) (pe_int) (nomark _))
        (pss_one (ps_asg (pe_op op_cat (pe_ix ix_q (pv 8) (pv 12) (fun _ _ => rfl)) (pe_lst (pa_cons (pv 13) pa_nil))) (pg_sub (pv 8) (pv 12) set_list)))
        (pss_nil))))))))
      (pss_one (ps_if (pt_cmpR op_eq (pv 6) (pe_int) (nomark _))
        (pss_cons (ps_setLc (i := 16) (own := [("one", 10)]) rfl sc_law.nd rfl rfl (sw_true rfl rfl rfl (by decide +kernel)) (pi_q (pv 2)) (blkOk_by (own := [("one", 10)]) (N := N_law) (sc := defScope s_law) (by decide +kernel)) (fun _ _ _ _ _ => pg_name (i := 10) sc_law.nd rfl (Or.inl rfl)) (fun _ _ _ _ _ => pts_one (pt_cmpR op_ne (pv 10) (pe_ix ix_q (pv 3) (pv 12) (fun _ _ => rfl)) (nomark _))) (fun _ _ _ _ _ => pv 10))
          (pss_cons (ps_set (i := 17) sc_law.nd rfl (Or.inl rfl) (pe_ix ix_q (pv 16) (pe_c G_law_next (hr.mono (by decide)) T.g__law_next (pa_cons (pv 1) (pa_cons (pe_callB call_lenQ (by rfl) T.z_len PySem.boot_len (pa_cons (pv 16) pa_nil)) pa_nil))) (fun _ _ => rfl)))
          (pss_cons (ps_set (i := 14) sc_law.nd rfl (Or.inl rfl) (pe_tup (pa_cons (pe_str) pa_nil)))
          (pss_one (ps_set (i := 15) sc_law.nd rfl (Or.inl rfl) (pe_c G_law_refute (hr.mono (by decide)) T.g__law_refute (pa_cons (pe_ix ix_q (pv 7) (pv 12) (fun _ _ => rfl)) (pa_cons (pe_c G_law_made (hr.mono (by decide)) T.g__law_made (pa_cons (pv 17) (pa_cons (pe_c G_law_hidden (hr.mono (by decide)) T.g__law_hidden (pa_cons (pv 1) (pa_cons (pv 17) pa_nil))) pa_nil))) pa_nil))))))))
        (pss_cons (ps_set (i := 18) sc_law.nd rfl (Or.inl rfl) (pe_c G_law_guess (hr.mono (by decide)) T.g__law_guess (pa_cons (pv 1) (pa_cons (pe_ix ix_q (pv 3) (pv 12) (fun _ _ => rfl)) (pa_cons (pe_ix ix_q (pv 4) (pv 12) (fun _ _ => rfl)) pa_nil)))))
          (pss_cons (ps_set (i := 14) sc_law.nd rfl (Or.inl rfl) (pe_c G_law_parting (hr.mono (by decide)) T.g__law_parting (pa_cons (pe_ix ix_q (pv 3) (pv 12) (fun _ _ => rfl)) (pa_cons (pe_ix ix_q (pe_ix ix_q (pv 4) (pv 12) (fun _ _ => rfl)) (pe_int) (fun _ _ => rfl)) (pa_cons (pe_ix ix_q (pe_ix ix_q (pv 4) (pv 12) (fun _ _ => rfl)) (pe_int) (fun _ _ => rfl)) (pa_cons (pe_ix ix_q (pv 18) (pe_int) (fun _ _ => rfl)) (pa_cons (pe_ix ix_q (pv 18) (pe_int) (fun _ _ => rfl)) pa_nil)))))))
          (pss_cons (ps_set (i := 15) sc_law.nd rfl (Or.inl rfl) (pe_c G_law_refute (hr.mono (by decide)) T.g__law_refute (pa_cons (pe_ix ix_q (pv 7) (pv 12) (fun _ _ => rfl)) (pa_cons (pe_c G_law_made (hr.mono (by decide)) T.g__law_made (pa_cons (pe_ix ix_q (pv 3) (pv 12) (fun _ _ => rfl)) (pa_cons (pv 18) pa_nil))) pa_nil))))
          (pss_one (ps_asg (pe_op op_add (pe_ix ix_q (pv 9) (pv 12) (fun _ _ => rfl)) (pe_int)) (pg_sub (pv 9) (pv 12) set_list)))))))))
      (pss_cons (ps_if (pt_not (pt_val (pe_c G_law_right (hr.mono (by decide)) T.g__law_right (pa_cons (pv 15) (pa_cons (pv 14) pa_nil)))))
      (pss_one (ps_ret (pe_bl)))
      (pss_nil))
      (pss_one (ps_for PassesOwn.never rfl (pi_range1 (by rfl) T.z_range (pa_cons (pe_int) pa_nil)) (pg_name (i := 10) sc_law.nd rfl (Or.inl rfl))
      (pss_one (ps_if (pt_not (pt_val (pe_c G_law_state (hr.mono (by decide)) T.g__law_state (pa_cons (pe_ix ix_q (pv 7) (pv 10) (fun _ _ => rfl)) (pa_cons (pe_ix ix_q (pv 3) (pv 10) (fun _ _ => rfl)) (pa_cons (pe_ix ix_q (pv 8) (pv 10) (fun _ _ => rfl)) (pa_cons (pe_ix ix_q (pv 9) (pv 10) (fun _ _ => rfl)) pa_nil)))))))
        (pss_one (ps_ret (pe_bl)))
        (pss_nil))))))))))
    (pss_one (ps_ret (pe_bl))))))))))))))), ?_⟩
    refine ⟨_, rfl, a, ns, rfl, hs, few, fun H1 st ca e1 nst ow1 => ⟨by show 8 ≤ sizeLine; decide, fun aP haP => ?_⟩⟩
    have nPs := ow1.new haP
    have ow2 := ow1.mono (sm_new (o := .lst (lpool.map V.str)) haP)
    have hP2 : upd H1 aP (.lst (lpool.map V.str)) aP = some (.lst (lpool.map V.str)) := upd_same
    refine ⟨_, rfl, _, rfl, _, rfl, _, _, rfl, .l hP2, st, 8, ca, rfl, ow2, by decide, by decide, fun r H3 r0 r1 ow3 b3 => ?_⟩
    have hP3 := b3 _ _ nPs.1 hP2
    have hrl : r.toNat < lpool.length := by show r.toNat < 8; omega
    have hl0 := List.getElem?_eq_getElem hrl
    have lo0 := lpool_ok _ (List.mem_of_getElem? hl0)
    generalize lpool[r.toNat] = l0 at hl0 lo0
    refine ⟨_, _, _, .str l0, rfl, rfl, .l hP3, atI_int r0 (by rw [List.getElem?_map, hl0]; rfl), by show 1 ≤ sizeLine; decide, fun aL haL => ?_⟩
    have nLP : aL ≠ aP := Ne.symm (ne_of_none hP3 haL)
    have s4 := sm_new (o := .lst [.str l0]) haL
    have hL4 : upd H3 aL (.lst [.str l0]) aL = some (.lst [.str l0]) := upd_same
    have ow4 := ow3.mono s4
    have hP4 := s4 _ _ hP3
    generalize upd H3 aL (.lst [.str l0]) = H4 at hL4 ow4 hP4
    refine ⟨_, rfl, _, rfl, _, _, _, .str l0, rfl, rfl, .l hL4, rfl, st, ca, l0, rfl, ow4, lo0, fun H5 p0 R0 E0 b5 ow5 pa5 mo0 => ⟨by show 1 ≤ sizeLine; decide, fun aH haH => ?_⟩⟩
    have nHs := ow5.new haH
    obtain ⟨cl4, i4, a4, j4, st4, _⟩ := ow4.ok
    have hL5 := b5.at st4 hL4 (fun y => by cases y)
    have hP5 := b5.at st4 hP4 (strs_ne fun _ y => by cases y)
    have s6 := sm_new (o := .lst [.ref p0]) haH
    have hH6 : upd H5 aH (.lst [.ref p0]) aH = some (.lst [.ref p0]) := upd_same
    have ow6 := ow5.mono s6
    have pa6 := pa5.mono (But.of_same (st := st) s6).hid
    have hL6 := s6 _ _ hL5
    have hP6 := s6 _ _ hP5
    generalize upd H5 aH (.lst [.ref p0]) = H6 at hH6 ow6 pa6 hL6 hP6
    refine ⟨_, rfl, _, _, _, .str l0, rfl, rfl, .l hL6, rfl, _, rfl, _, _, _, .ref p0, rfl, rfl, .l hH6, rfl, p0, l0, R0, E0, rfl, pa6.mono hid_same, lo0, mo0, fun H7 m0 e7 ma7 => ⟨by show 1 ≤ sizeLine; decide, fun aM haM => ?_⟩⟩
    have nHM : aH ≠ aM := ne_of_none (e7 _ _ hH6) haM
    have s8 := sm_new (o := .lst [.ref m0]) haM
    have e78 := e7.trans s8
    have B8 : Bun K (upd H7 aM (.lst [.ref m0])) st ca aP aL aH aM l0 p0 m0 R0 E0 [] [] [] := ⟨ow6.mono e78, e78 _ _ hP6, e78 _ _ hL6, e78 _ _ hH6, upd_same, pa6.mono (But.of_same e78).hid, ma7.mono s8, nLP, nHM⟩
    generalize upd H7 aM (.lst [.ref m0]) = H8 at B8
    refine ⟨_, rfl, st, 4, ca, rfl, B8.ow, by decide, by decide, fun c H9 c0 c1 ow9 b9 => ?_⟩
    have B9 := B8.but b9 ow9
    refine ⟨fun σ' H' => ∃ (l1 : Str) (p1 m1 : Addr) (R1 : List (List Int)) (E1 : List Int), σ' = [some (.ref a), some (.ref st), some (.ref aP), some (.ref aL), some (.ref aH), some (.ref aM), some (.int c), none, none, none, none, none, none, none, none, none, none, none, none] ∧ Bun K H' st ca aP aL aH aM l0 p0 m0 R0 E0 [l1] [p1] [m1] ∧ PairAt (hid st H') p1 R1 E1 ∧ MachAt (CM K) H' m1 l1 R1 E1 ∧ LOk l1 ∧ MOk (cs l1).length R1 E1, ?_, ?_⟩
    · refine ⟨_, rfl, rfl, _, rfl, ite2 (fun c1 => ?_) (fun c1 => ?_)⟩
      · -- the same machine
        refine ⟨_, rfl, .inl ⟨rfl, _, .of B9.hL⟩, _, rfl, _, _, _, .str l0, rfl, rfl, .l B9.hL, rfl, _, _, _, rfl, rfl, B9.hL, by show 1 < sizeLine; decide, ?_⟩
        have BL := B9.setL [l0]
        refine ⟨_, rfl, .inl ⟨rfl, _, .of BL.hH⟩, _, rfl, _, _, _, .ref p0, rfl, rfl, .l BL.hH, rfl, _, _, _, rfl, rfl, BL.hH, by show 1 < sizeLine; decide, ?_⟩
        have BH := BL.setH [p0]
        refine ⟨_, rfl, .inl ⟨rfl, _, .of BH.hM⟩, _, rfl, _, _, _, .ref m0, rfl, rfl, .l BH.hM, rfl, _, _, _, rfl, rfl, BH.hM, by show 1 < sizeLine; decide, ?_⟩
        have BM := BH.setM [m0]
        exact ⟨l0, p0, m0, R0, E0, rfl, BM, BM.pa, BM.ma, lo0, mo0⟩
      · refine ⟨_, rfl, .inl ⟨rfl, _, .of B9.hL⟩, _, rfl, _, _, _, .str l0, rfl, rfl, .l B9.hL, rfl, _, _, _, rfl, rfl, B9.hL, by show 1 < sizeLine; decide, ?_⟩
        have BL := B9.setL [l0]
        refine ⟨fun σ' H' => ∃ l1 : Str, σ' = [some (.ref a), some (.ref st), some (.ref aP), some (.ref aL), some (.ref aH), some (.ref aM), some (.int c), none, none, none, none, none, none, none, none, none, none, none, none] ∧ Bun K H' st ca aP aL aH aM l0 p0 m0 R0 E0 [l1] [] [] ∧ LOk l1, ?_, ?_⟩
        · refine ⟨_, rfl, rfl, _, rfl, ite2 (fun c2 => ?_) (fun c2 => ?_)⟩
          · refine ⟨_, rfl, _, rfl, _, rfl, _, _, rfl, .l BL.hP, st, 8, ca, rfl, BL.ow, by decide, by decide, fun r2 H10 r20 r21 ow10 b10 => ?_⟩
            have B10 := BL.but b10 ow10
            have hrl2 : r2.toNat < lpool.length := by show r2.toNat < 8; omega
            have hl1 := List.getElem?_eq_getElem hrl2
            have lo1 := lpool_ok _ (List.mem_of_getElem? hl1)
            generalize lpool[r2.toNat] = l1 at hl1 lo1
            exact ⟨_, _, _, .str l1, rfl, rfl, .l B10.hP, atI_int r20 (by rw [List.getElem?_map, hl1]; rfl), _, rfl, _, _, _, 1, rfl, rfl, B10.hL, rfl, l1, rfl, B10.setL [l1], lo1⟩
          · exact ⟨l0, rfl, BL, lo0⟩
        · rintro σ' H10 ⟨l1, rfl, B10, lo1⟩
          refine ⟨_, rfl, .inl ⟨rfl, _, .of B10.hH⟩, _, rfl, _, rfl, _, _, _, .str l1, rfl, rfl, .l B10.hL, rfl, st, ca, l1, rfl, B10.ow, lo1, fun H11 p1 R1 E1 b11 ow11 pa11 mo1 => ?_⟩
          have B11 := B10.but b11 ow11
          refine ⟨_, _, _, rfl, rfl, B11.hH, by show 1 < sizeLine; decide, ?_⟩
          have BH := B11.setH [p1]
          have pa12 := B11.pH (But.upd _ _ (.lst (.ref p0 :: [p1].map V.ref))) pa11
          refine ⟨_, rfl, .inl ⟨rfl, _, .of BH.hM⟩, _, rfl, _, _, _, .str l1, rfl, rfl, .l BH.hL, rfl, _, rfl, _, _, _, .ref p1, rfl, rfl, .l BH.hH, rfl, p1, l1, R1, E1, rfl, pa12.mono hid_same, lo1, mo1, fun H13 m1 e13 ma13 => ?_⟩
          have B13 := BH.same e13
          have pa13 := pa12.mono (But.of_same (st := st) e13).hid
          refine ⟨_, _, _, rfl, rfl, B13.hM, by show 1 < sizeLine; decide, ?_⟩
          exact ⟨l1, p1, m1, R1, E1, rfl, B13.setM [m1], B13.pM (But.upd _ _ _) pa13, ma13.butl (But.upd _ _ _) B13.hM, lo1, mo1⟩
    · rintro σ' Hm ⟨l1, p1, m1, R1, E1, rfl, B, pa1, ma1, lo1, mo1⟩
      refine ⟨_, rfl, _, _, _, .ref m0, rfl, rfl, .l B.hM, rfl, fun t0 d0 n0 nd0 ne0 => ?_⟩
      have s0 : Same Hm (upd (upd Hm d0 (.own t0)) t0 (.ins (CT K) d0 [])) := fun b o e => by
        rw [upd_ne (ne_of_none e n0), upd_ne (ne_of_none e nd0)]
        exact e
      refine ⟨Hm, t0, d0, m0, l0, R0, E0, rfl, s0, n0, upd_same, B.ma, lo0, mo0, fun Ha A0' F0 ea ta0 to0 eq0 => ⟨rfl, ?_⟩⟩
      refine ⟨_, rfl, _, _, _, .ref m1, rfl, rfl, .l (ea _ _ B.hM), rfl, fun t1 d1 n1 nd1 ne1 => ?_⟩
      have s1 : Same Ha (upd (upd Ha d1 (.own t1)) t1 (.ins (CT K) d1 [])) := fun b o e => by
        rw [upd_ne (ne_of_none e n1), upd_ne (ne_of_none e nd1)]
        exact e
      refine ⟨Ha, t1, d1, m1, l1, R1, E1, rfl, s1, n1, upd_same, ma1.mono ea, lo1, mo1, fun Hb A1' F1 eb tb1 to1 eq1 => ⟨rfl, by show 2 ≤ sizeLine; decide, fun aT haT => ?_⟩⟩
      refine ⟨Nat.zero_le _, fun x0 hx0 => ⟨Nat.zero_le _, fun x1 hx1 => ⟨by show 2 ≤ sizeLine; decide, fun ask hask => ⟨by show 2 ≤ sizeLine; decide, fun gs hgs => ?_⟩⟩⟩⟩
      have sT := sm_new (o := .lst [.ref t0, .ref t1]) haT
      have sX0 := sm_new (o := .lst []) hx0
      have sX1 := sm_new (o := .lst []) hx1
      have sK := sm_new (o := .lst [.ref x0, .ref x1]) hask
      have sG := sm_new (o := .lst [.int 0, .int 0]) hgs
      have em := ea.trans eb
      have sX := sX0.trans sX1
      have sKG := sK.trans sG
      have sXG := sX.trans sKG
      obtain ⟨dxa, ma, qa, ia, _⟩ := id ta0
      obtain ⟨G, s, x, fx, dy⟩ := start_of B pa1 lo0 lo1 mo0 mo1 to0 to1 eq0 eq1 (em.trans (sT.trans sXG)) n0 (ea.free n1) ((em.trans (sT.trans sX)).free hask) ((em.trans (sT.trans (sX.trans sK))).free hgs) (sXG _ _ upd_same) (sX1.trans sKG _ _ upd_same) (sKG _ _ upd_same) (sG _ _ upd_same) upd_same
        (ne_of_none (sX _ _ (upd_same (o := .lst [.ref t0, .ref t1]))) hask) (ne_of_none ia n1) (ta0.mono (eb.trans (sT.trans sXG))) (tb1.mono (sT.trans sXG))
      clear sT sX0 sX1 sK sG sX sKG sXG em
      generalize upd (upd (upd (upd (upd Hb aT (.lst [.ref t0, .ref t1])) x0 (.lst [])) x1 (.lst [])) ask (.lst [.ref x0, .ref x1])) gs (.lst [.int 0, .int 0]) = Hz at dy
      refine ⟨2, rfl, by decide, by decide, for_rng (n := 2) (fun i σ H' => ∃ v10 : Option V, σ = [some (.ref a), some (.ref st), some (.ref aP), some (.ref aL), some (.ref aH), some (.ref aM), some (.int c), some (.ref aT), some (.ref ask), some (.ref gs), v10, none, none, none, none, none, none, none, none] ∧ Dyn K G H' st ca ask gs s x (fun _ => []) (fun _ => 0) (fun _ => []) (fun _ => 0)) ⟨_, rfl, dy⟩ ?_ ?_⟩
      · rintro i σ' H' hi ⟨v10, rfl, d⟩
        exact ⟨_, rfl, _, rfl, _, _, _, .ref (s i).t, rfl, rfl, .l (d.sm _ _ fx.gt), pick2 (f := fun j => V.ref (s j).t) hi, _, rfl, _, rfl, _, _, _, .str (s i).l, rfl, rfl, .l (d.sm _ _ fx.gl), pick2 (f := fun j => V.str (s j).l) hi,
          _, rfl, _, rfl, _, _, _, .ref (x i), rfl, rfl, .l d.ha, pick2 (f := fun j => V.ref (x j)) hi, _, rfl, _, rfl, _, _, _, .int 0, rfl, rfl, .l d.hg, pick2 (f := fun j => V.int ((fun _ => 0 : Nat → Int) j)) hi,
          (s i).t, x i, (s i).l, (s i).A, (s i).F, [], 0, rfl, d.te i hi, d.hx i hi, Nat.zero_le _, fun H'' e => ⟨_, rfl, ite2 (fun z => by cases z) (fun _ => ⟨_, rfl, d.same e⟩)⟩⟩
      · rintro σ' Hs ⟨v10, rfl, d⟩
        refine ⟨_, rfl, st, 10, ca, rfl, d.ow, by decide, by decide, fun tn Ht tn0 tn1 owt bt => ⟨_, _, rfl, rfl, 6 + tn, rfl, by omega, by omega, for_rng (n := (6 + tn).toNat) (fun i σ H' => ∃ (v6 v10 v11 v12 v13 v14 v15 v16 v17 v18 : Option V) (x : Nat → Addr) (as : Nat → List Str) (g : Nat → Int), σ = [some (.ref a), some (.ref st), some (.ref aP), some (.ref aL), some (.ref aH), some (.ref aM), v6, some (.ref aT), some (.ref ask), some (.ref gs), v10, v11, v12, v13, v14, v15, v16, v17, v18] ∧ Dyn K G H' st ca ask gs s x as g as g ∧ ∀ k, k < 2 → (as k).length ≤ i) ⟨_, _, _, _, _, _, _, _, _, _, _, _, _, rfl, d.but fx.nst bt owt, fun k _ => Nat.zero_le _⟩ ?_ ?_⟩⟩
        · clear d dy
          rintro i σ' H0 hi ⟨v6, v10, v11, v12, v13, v14, v15, v16, v17, v18, x, as, g, rfl, d, len⟩
          have hi15 : i < 16 := by omega
          refine ⟨_, rfl, st, 2, ca, rfl, d.ow, by decide, by decide, fun k Hk k0 k1 owk bk => ?_⟩
          obtain ⟨k, rfl⟩ := Int.eq_ofNat_of_zero_le k0
          have hk : k < 2 := by omega
          have dk := d.but fx.nst bk owk
          refine ⟨_, rfl, st, 8, ca, rfl, owk, by decide, by decide, fun c Hc c0 c1 owc bc => ?_⟩
          have dc := dk.but fx.nst bc owc
          have lk := fx.lo k
          clear d dk bk owk bc
          refine ⟨fun σ' H' => ∃ (w13 w16 w17 w18 : Option V) (du an : V) (x : Nat → Addr) (as : Nat → List Str) (g : Nat → Int), σ' = [some (.ref a), some (.ref st), some (.ref aP), some (.ref aL), some (.ref aH), some (.ref aM), some (.int c), some (.ref aT), some (.ref ask), some (.ref gs), v10, some (.int (i : Nat)), some (.int (k : Nat)), w13, some du, some an, w16, w17, w18] ∧ SameAns H' an du ∧ Dyn K G H' st ca ask gs s x as g as g ∧ ∀ k, k < 2 → (as k).length ≤ i + 1, ?_, ?_⟩
          · refine ⟨_, rfl, _, _, rfl, rfl, _, rfl, ite2 (fun q1 => ?_) (fun q1 => ?_)⟩
            · refine ⟨_, rfl, _, rfl, _, rfl, _, _, _, .str (s k).l, rfl, rfl, .l (dc.sm _ _ fx.gl), pick2 (f := fun j => V.str (s j).l) hk, _, rfl, st, 7, ca, rfl, dc.ow, by decide, by decide, fun n H3 n0 n1 ow3 b3 => ?_⟩
              obtain ⟨n, rfl⟩ := Int.eq_ofNat_of_zero_le n0
              have d3 := dc.but fx.nst b3 ow3
              refine ⟨st, ca, (s k).l, n, rfl, ow3, lk, by omega, fun H4 w4 b4 ow4 wok4 wl4 => ?_⟩
              have d4 := d3.but fx.nst b4 ow4
              refine ⟨fun σ' H' => ∃ wd : Str, σ' = [some (.ref a), some (.ref st), some (.ref aP), some (.ref aL), some (.ref aH), some (.ref aM), some (.int c), some (.ref aT), some (.ref ask), some (.ref gs), v10, some (.int (i : Nat)), some (.int (k : Nat)), some (.str wd), v14, v15, v16, v17, v18] ∧ Dyn K G H' st ca ask gs s x as g as g ∧ ((c = 0 ∧ ∃ i, BadAt (s k).l wd i) ∨ (c ≠ 0 ∧ WOk (s k).l wd)) ∧ wd.cps.size ≤ 500 ∧ StrS wd, ?_, ?_⟩
              · refine ⟨_, rfl, rfl, _, rfl, ite2 (fun q2 => ?_) (fun q2 => ?_)⟩
                · have q2 : c = 0 := by simpa using q2
                  exact ⟨_, rfl, _, rfl, _, rfl, _, _, _, .str (s k).l, rfl, rfl, .l (d4.sm _ _ fx.gl), pick2 (f := fun j => V.str (s j).l) hk, _, rfl, st, ca, (s k).l, w4, rfl, ow4, lk, by omega, wok4.strS lk, fun H5 y b5 ow5 bad ysz ystr => ⟨y, rfl, d4.but fx.nst b5 ow5, .inl ⟨q2, bad⟩, ysz, ystr⟩⟩
                · have q2 : c ≠ 0 := by simpa using q2
                  exact ⟨w4, rfl, d4, .inr ⟨q2, wok4⟩, by omega, wok4.strS lk⟩
              clear d4 d3 b3 ow3 b4 ow4 wok4 wl4
              rintro σ' H5 ⟨w5, rfl, d5, or5, sz5, ss5⟩
              refine ⟨fun σ' H' => ∃ wd : Str, σ' = [some (.ref a), some (.ref st), some (.ref aP), some (.ref aL), some (.ref aH), some (.ref aM), some (.int c), some (.ref aT), some (.ref ask), some (.ref gs), v10, some (.int (i : Nat)), some (.int (k : Nat)), some (.str wd), v14, v15, v16, v17, v18] ∧ Dyn K G H' st ca ask gs s x as g as g ∧ ((c = 0 ∧ ∃ i, BadAt (s k).l wd i) ∨ (c ≠ 0 ∧ WOk (s k).l wd)) ∧ wd.cps.size ≤ 500 ∧ StrS wd, ?_, ?_⟩
              · refine ⟨_, rfl, rfl, _, rfl, ite2 (fun q2 => ?_) (fun q2 => ?_)⟩
                · have q2 : c = 1 := by simpa using q2
                  refine ⟨_, rfl, st, 6, ca, rfl, d5.ow, by decide, by decide, fun r6 H6 _ _ ow6 b6 => ?_⟩
                  have d6 := d5.but fx.nst b6 ow6
                  refine ⟨rfl, _, rfl, ite2 (fun q3 => ?_) (fun q3 => ?_)⟩
                  · refine ⟨_, rfl, _, rfl, _, rfl, _, _, _, .str (s k).l, rfl, rfl, .l (d6.sm _ _ fx.gl), pick2 (f := fun j => V.str (s j).l) hk, _, rfl, st, 101, ca, rfl, ow6, by decide, by decide, fun m H7 m0' m1' ow7 b7 => ?_⟩
                    obtain ⟨m, rfl⟩ := Int.eq_ofNat_of_zero_le m0'
                    have d7 := d6.but fx.nst b7 ow7
                    refine ⟨_, _, rfl, rfl, st, ca, (s k).l, 100 + m, by push_cast; rfl, ow7, lk, by omega, fun H8 w8 b8 ow8 wok8 wl8 => ?_⟩
                    exact ⟨w8, rfl, d7.but fx.nst b8 ow8, .inr ⟨by omega, wok8⟩, by omega, wok8.strS lk⟩
                  · exact ⟨w5, rfl, d6, or5, sz5, ss5⟩
                · refine ite2 (fun z => by cases z) (fun _ => ?_)
                  exact ⟨w5, rfl, d5, or5, sz5, ss5⟩
              clear d5 or5 sz5 ss5
              rintro σ' H6 ⟨wd, rfl, d, or6, sz6, ss6⟩
              refine ⟨_, rfl, _, rfl, _, _, _, .ref (s k).p, rfl, rfl, .l (d.sm _ _ fx.gh), pick2 (f := fun j => V.ref (s j).p) hk, _, rfl, _, rfl, _, _, _, .str (s k).l, rfl, rfl, .l (d.sm _ _ fx.gl), pick2 (f := fun j => V.str (s j).l) hk, _, rfl, (s k).p, (s k).l, wd, (s k).R, (s k).E, rfl, (fx.pr k).mono d.sm, lk, fx.mo k, by omega, fun wok => ?_, fun bi bad H7 r7 e7 hr7 => ?_⟩
              · have nc : c ≠ 0 := by
                  rcases or6 with ⟨_, _, y⟩ | ⟨y, _⟩
                  · exact absurd wok y.not
                  · exact y
                refine ⟨_, rfl, _, rfl, _, _, _, .ref (s k).t, rfl, rfl, .l (d.sm _ _ fx.gt), pick2 (f := fun j => V.ref (s j).t) hk, _, rfl, (s k).t, (s k).l, wd, (s k).A, (s k).F, as k, g k, rfl, d.te k hk, lk, fx.to k, by have := len k hk; omega, fun _ H7 b7 te7 => ?_, fun bi bad => absurd wok bad.not⟩
                have d7 := d.teach fx hk b7 te7
                rw [up_self] at d7
                refine ⟨_, rfl, _, _, rfl, rfl, _, rfl, ite2 (fun q5 => ?_) (fun q5 => absurd (decide_eq_true (by omega)) q5)⟩
                refine ⟨_, rfl, _, rfl, _, _, _, .ref (x k), rfl, rfl, .l d7.ha, pick2 (f := fun j => V.ref (x j)) hk, _, rfl, by show 1 ≤ sizeLine; decide, fun p hp => ?_⟩
                have d8 := d7.same (sm_new (o := .lst [.str wd]) hp)
                refine ⟨x k, p, _, _, rfl, rfl, d8.hx k hk, upd_same, ?_, fun D hD => ?_⟩
                · have := len k hk
                  rw [List.length_map]; exact Nat.le_trans (by show (as k).length + 1 ≤ 1000; omega) (by decide)
                have d9 := d8.same (sm_new (o := .lst ((as k).map V.str ++ [.str wd])) hD)
                refine ⟨_, rfl, _, rfl, _, _, _, k, rfl, rfl, d9.ha, ixN_int (Int.natCast_nonneg k) (by show k < 2; exact hk), ?_⟩
                have dA := d9.setask fx hk (D := D) (as' := as k ++ [wd]) (by rw [List.map_append]; exact upd_same)
                have es := set2 (f := fun j => V.ref (x j)) hk (.ref D)
                have e0 : up (fun j => V.ref (x j)) k (V.ref D) 0 = V.ref (up x k D 0) := by unfold up; split <;> rfl
                have e1 : up (fun j => V.ref (x j)) k (V.ref D) 1 = V.ref (up x k D 1) := by unfold up; split <;> rfl
                rw [e0, e1] at es
                rw [es]
                refine ⟨_, _, _, _, _, _, _, _, _, rfl, ?_, dA, fun j hj => ?_⟩
                · rw [fx.eq k (ix (s k).l wd) (ix_lt wok)]; exact .bl _
                · by_cases n : j = k
                  · subst n; rw [up_at, List.length_append]; exact Nat.add_le_add_right (len j hj) 1
                  · rw [up_ne n]; exact Nat.le_succ_of_le (len j hj)
              · have nc : c = 0 := by
                  rcases or6 with ⟨y, _⟩ | ⟨_, y⟩
                  · exact y
                  · exact absurd y bad.not
                have d7 := d.same e7
                refine ⟨_, rfl, _, rfl, _, _, _, .ref (s k).t, rfl, rfl, .l (d7.sm _ _ fx.gt), pick2 (f := fun j => V.ref (s j).t) hk, _, rfl, (s k).t, (s k).l, wd, (s k).A, (s k).F, as k, g k, rfl, d7.te k hk, lk, fx.to k, by have := len k hk; omega, fun wok => absurd wok bad.not, fun bj bad' H8 r8 e8 hr8 => ?_⟩
                have := bad.unique bad'
                subst this
                refine ⟨_, rfl, _, _, rfl, rfl, _, rfl, ite2 (fun q5 => absurd (of_decide_eq_true q5) (by omega)) (fun q5 => ?_)⟩
                exact ⟨_, _, _, _, _, _, _, _, _, rfl, .three ss6 hr8 (e8 _ _ hr7), d7.same e8, fun j hj => Nat.le_succ_of_le (len j hj)⟩
            · refine ⟨_, rfl, rfl, _, rfl, ite2 (fun q2 => ?_) (fun q2 => ?_)⟩
              · refine ⟨_, rfl, lc_q (K := K) (.l (dc.sm _ _ fx.gp)) (fun D i H' => Same Hc H' ∧ H' D = some (.lst (((lpool.take i).filter fun x => decide (x ≠ (s k).l)).map V.str))) (fun M hM => ⟨sm_new hM, by rw [upd_same]; rfl⟩) (fun M i H' _ p o h => p.1 _ _ h) ?_ ?_⟩
                · rintro M i' v H' hM hi' ⟨e, h1⟩
                  rw [List.getElem?_map] at hi'
                  cases hx' : lpool[i']? with
                  | none => rw [hx'] at hi'; cases hi'
                  | some x' =>
                    rw [hx'] at hi'; cases hi'
                    have tk : lpool.take (i' + 1) = lpool.take i' ++ [x'] := by rw [List.take_add_one, hx']; rfl
                    have de := dc.same e
                    refine ⟨rfl, _, rfl, _, rfl, _, rfl, _, _, _, .str (s k).l, rfl, rfl, .l (de.sm _ _ fx.gl), pick2 (f := fun j => V.str (s j).l) hk, rfl, _, rfl, ite2 (fun c3 => ?_) (fun c3 => ?_)⟩
                    · have hne : x' ≠ (s k).l := by simpa using c3
                      refine ⟨_, rfl, _, h1, ?_, sm_mut e hM, ?_⟩
                      · rw [List.length_map]; exact Nat.lt_of_le_of_lt (Nat.le_trans (List.length_filter_le _ _) (by rw [List.length_take]; exact Nat.le_trans (Nat.min_le_right _ _) (by decide) : _ ≤ 1000)) (by decide)
                      · rw [upd_same, tk, List.filter_append, List.map_append, List.filter_cons, if_pos (decide_eq_true hne)]; rfl
                    · have hne : x' = (s k).l := by simpa using c3
                      refine ⟨e, ?_⟩
                      rw [tk, List.filter_append, List.filter_cons, if_neg (by simp [hne]), List.filter_nil, List.append_nil]
                      exact h1
                · rintro M H5 hM ⟨e, h1⟩
                  rw [List.length_map, List.take_length] at h1
                  have d5 := dc.same e
                  have pos := lpool_pos (s k).l
                  generalize ho : (lpool.filter fun x => decide (x ≠ (s k).l)) = oth at h1 pos
                  have hol : oth.length ≤ 8 := by rw [← ho]; exact List.length_filter_le _ _
                  refine ⟨_, rfl, _, rfl, _, rfl, _, _, rfl, .l h1, st, ((oth.map V.str).length : Int), ca, rfl, d5.ow, by rw [List.length_map]; omega, by rw [List.length_map]; omega, fun r H6 r0 r1 ow6 b6 => ?_⟩
                  rw [List.length_map] at r1
                  obtain ⟨cl5, i5, a5, j5, st5, _⟩ := d5.ow.ok
                  have h6 := b6.at st5 h1 (strs_ne fun _ y => by cases y)
                  have d6 := d5.but fx.nst b6 ow6
                  have hrl : r.toNat < oth.length := by omega
                  have hl' := List.getElem?_eq_getElem hrl
                  generalize oth[r.toNat] = l' at hl'
                  have hm' : l' ∈ lpool.filter fun x => decide (x ≠ (s k).l) := by rw [ho]; exact List.mem_of_getElem? hl'
                  obtain ⟨hm1, hm2⟩ := List.mem_filter.mp hm'
                  have nl : l' ≠ (s k).l := of_decide_eq_true hm2
                  have lo' := lpool_ok _ hm1
                  refine ⟨_, _, _, .str l', rfl, rfl, .l h6, atI_int r0 (by rw [List.getElem?_map, hl']; rfl), by show 1 ≤ sizeLine; decide, fun du hdu => ?_⟩
                  have d7 := d6.same (sm_new (o := .tup [.str "letters"]) hdu)
                  have hu7 : upd H6 du (.tup [.str "letters"]) du = some (.tup [.str "letters"]) := upd_same
                  generalize upd H6 du (.tup [.str "letters"]) = H7 at d7 hu7
                  refine ⟨_, rfl, _, rfl, _, _, _, .ref (s k).t, rfl, rfl, .l (d7.sm _ _ fx.gt), pick2 (f := fun j => V.ref (s j).t) hk, _, rfl, _, rfl, _, rfl, st, ca, l', rfl, d7.ow, lo', fun H8 p8 R8 E8 b8 ow8 pa8 mo8 => ?_⟩
                  have d8 := d7.but fx.nst b8 ow8
                  obtain ⟨cl7, i7, a7, j7, st7, _⟩ := d7.ow.ok
                  have hu8 := b8.at st7 hu7 (fun y => by cases y)
                  refine ⟨p8, l', R8, E8, rfl, pa8.mono hid_same, lo', mo8, fun H9 m9 e9 ma9 => ?_⟩
                  have d9 := d8.same e9
                  refine ⟨(s k).t, m9, (s k).l, l', (s k).A, (s k).F, R8, E8, as k, g k, rfl, d9.te k hk, ma9, lk, fx.to k, mo8, fun y => absurd y.symm nl, fun _ HA rA eA hA => ?_⟩
                  exact ⟨_, _, _, _, _, _, _, _, _, rfl, .one hA (eA _ _ (e9 _ _ hu8)), d9.same eA, fun j hj => Nat.le_succ_of_le (len j hj)⟩
              · refine ⟨_, rfl, _, rfl, _, rfl, _, _, _, .str (s k).l, rfl, rfl, .l (dc.sm _ _ fx.gl), pick2 (f := fun j => V.str (s j).l) hk, _, rfl, _, rfl, _, _, _, .ref (s k).p, rfl, rfl, .l (dc.sm _ _ fx.gh), pick2 (f := fun j => V.ref (s j).p) hk, st, ca, (s k).p, (s k).l, (s k).R, (s k).E, rfl, dc.ow, (fx.pr k).mono (same_hid dc.sm fx.nst), fx.mo k, lk, fun H5 p5 R5 E5 b5 ow5 pa5 mo5 => ?_⟩
                have d5 := dc.but fx.nst b5 ow5
                obtain ⟨aA, aE, hpp, hA, hE⟩ := (fx.pr k).mono d5.sm
                obtain ⟨aB, aF, hqq, hB, hF⟩ := pa5.mono hid_same
                refine ⟨_, rfl, _, rfl, _, _, _, .str (s k).l, rfl, rfl, .l (d5.sm _ _ fx.gl), pick2 (f := fun j => V.str (s j).l) hk, _, rfl, _, rfl, _, _, _, .ref (s k).p, rfl, rfl, .l (d5.sm _ _ fx.gh), pick2 (f := fun j => V.ref (s j).p) hk, _, _, _, .ref aA, rfl, rfl, .t hpp, rfl, _, rfl, _, rfl, _, _, _, .ref (s k).p, rfl, rfl, .l (d5.sm _ _ fx.gh), pick2 (f := fun j => V.ref (s j).p) hk, _, _, _, .ref aE, rfl, rfl, .t hpp, rfl, _, rfl, _, _, _, .ref aB, rfl, rfl, .t hqq, rfl, _, rfl, _, _, _, .ref aF, rfl, rfl, .t hqq, rfl,
                  (s k).l, aA, aE, aB, aF, (s k).R, (s k).E, R5, E5, rfl, hA, .l hE, hB, .l hF, lk, fx.mo k, mo5, fun H6 r6 e6 ip6 => ?_⟩
                have d6 := d5.same e6
                refine ⟨_, rfl, _, rfl, _, _, _, .ref (s k).t, rfl, rfl, .l (d6.sm _ _ fx.gt), pick2 (f := fun j => V.ref (s j).t) hk, _, rfl, _, rfl, _, _, _, .str (s k).l, rfl, rfl, .l (d6.sm _ _ fx.gl), pick2 (f := fun j => V.str (s j).l) hk, _, rfl, p5, (s k).l, R5, E5, rfl, (pa5.mono hid_same).mono e6, lk, mo5, fun H7 m7 e7 ma7 => ?_⟩
                have d7 := d6.same e7
                refine ⟨(s k).t, m7, (s k).l, (s k).l, (s k).A, (s k).F, R5, E5, as k, g k, rfl, d7.te k hk, ma7, lk, fx.to k, mo5, fun _ H8 r8 b8 te8 ip8 => ?_, fun y => absurd rfl y⟩
                have d8 := d7.teach fx hk b8 te8
                rw [up_self] at d8
                have ip9 : IsPart (cs (s k).l).length (s k).A (s k).F R5 E5 r6 := ip6.congr (fun u hu => fx.eq k u hu) (fun _ _ => rfl)
                have er := ip8.unique ip9
                subst er
                refine ⟨_, rfl, _, rfl, _, _, _, .int (g k), rfl, rfl, .l d8.hg, pick2 (f := fun j => V.int (g j)) hk, _, _, rfl, rfl, _, rfl, _, rfl, _, _, _, k, rfl, rfl, d8.hg, ixN_int (Int.natCast_nonneg k) (by show k < 2; exact hk), ?_⟩
                have dA := d8.setgs fx (k := k) (v := g k + 1)
                have es := set2 (f := fun j => V.int (g j)) hk (.int (g k + 1))
                have e0 : up (fun j => V.int (g j)) k (V.int (g k + 1)) 0 = V.int (up g k (g k + 1) 0) := by unfold up; split <;> rfl
                have e1 : up (fun j => V.int (g j)) k (V.int (g k + 1)) 1 = V.int (up g k (g k + 1) 1) := by unfold up; split <;> rfl
                rw [e0, e1] at es
                rw [es]
                exact ⟨_, _, _, _, _, _, _, _, _, rfl, optW_same lk _, dA, fun j hj => Nat.le_succ_of_le (len j hj)⟩
          · rintro σ' H1 ⟨w13, w16, w17, w18, du, an, x, as, g, rfl, sa, d, len⟩
            refine ⟨_, rfl, _, rfl, _, _, rfl, sa, _, rfl, ite2 (fun z => by cases z) (fun _ => ?_)⟩
            refine ⟨2, rfl, by decide, by decide, for_rng (n := 2) (fun j σ H' => ∃ v10 : Option V, σ = [some (.ref a), some (.ref st), some (.ref aP), some (.ref aL), some (.ref aH), some (.ref aM), some (.int c), some (.ref aT), some (.ref ask), some (.ref gs), v10, some (.int (i : Nat)), some (.int (k : Nat)), w13, some du, some an, w16, w17, w18] ∧ Dyn K G H' st ca ask gs s x as g as g) ⟨_, rfl, d⟩ ?_ ?_⟩
            · rintro i' σ' H' hi' ⟨v10, rfl, d⟩
              exact ⟨_, rfl, _, rfl, _, _, _, .ref (s i').t, rfl, rfl, .l (d.sm _ _ fx.gt), pick2 (f := fun j => V.ref (s j).t) hi', _, rfl, _, rfl, _, _, _, .str (s i').l, rfl, rfl, .l (d.sm _ _ fx.gl), pick2 (f := fun j => V.str (s j).l) hi',
                _, rfl, _, rfl, _, _, _, .ref (x i'), rfl, rfl, .l d.ha, pick2 (f := fun j => V.ref (x j)) hi', _, rfl, _, rfl, _, _, _, .int (g i'), rfl, rfl, .l d.hg, pick2 (f := fun j => V.int (g j)) hi',
                (s i').t, x i', (s i').l, (s i').A, (s i').F, as i', g i', rfl, d.te i' hi', d.hx i' hi', by have := len i' hi'; omega, fun H'' e => ⟨_, rfl, ite2 (fun z => by cases z) (fun _ => ⟨_, rfl, d.same e⟩)⟩⟩
            · rintro σ' H' ⟨v10, rfl, d⟩
              exact ⟨_, _, _, _, _, _, _, _, _, _, _, _, _, rfl, d, len⟩
        · rintro σ' H' _
          exact k _
end
end Fy

set_option Elab.async false
set_option linter.all false
set_option maxRecDepth 100000
set_option maxHeartbeats 0
namespace Fy
open PySem PySem.Spec PyProof.Rows L2
theorem law_name : (HandSHeadRun.topDef R.prog 52).name = ("law" : Str) := by kernel_rfl
end Fy
open PySem PySem.W PySem.Calls PyProof.Rows
theorem PySem.Challenge.cw_fromyesalone_k71_teacher_by_model_holds : PySem.Challenge.rw_fromyesalone_k71_teacher_by_model.Holds := by
  w_on; o_law
  refine HandSHeadRun.head_any (r := OpenLaw.row PySem.Challenge.rw_fromyesalone_k71_teacher_by_model) (q := view (OpenLaw.row PySem.Challenge.rw_fromyesalone_k71_teacher_by_model).prog [52]) (H := Fy.hk) (ob := Fy.ob) (M := 6000) (loose := Fy.loose) (d := HandSHeadRun.topDef (OpenLaw.row PySem.Challenge.rw_fromyesalone_k71_teacher_by_model).prog 52) (kwd := []) Fy.ob_eq
    (by kernel_rfl) (fun s => by kernel_rfl) Fy.run (by kernel_rfl) (by kernel_rfl) (by kernel_rfl) (by rfl) (by first | assumption | decide +kernel) (by decide +kernel) ⟨rfl, rfl, rfl, rfl, rfl, by decide +kernel⟩ ?hw ?hc
  case hw => w_witness2
  case hc =>
    refine L2.walk_ofE (l := PySem.Challenge.rw_fromyesalone_k71_teacher_by_model) (n := 63) (k := 9) (x := "script") (CX := L2.CX0) rfl (by decide) (by kernel_rfl) ⟨rfl, by decide, by decide⟩ ?F (fun _ _ _ _ z => z)
    intro w mg fa h Y G hmg0
    obtain ⟨K, KX, c⟩ := Y
    have TQ := Fy.tq_of KX G c
    have hmg : mg ("law" : PySem.Str) = some (.ref fa) := by
      rw [← Fy.law_name]
      exact hmg0
    have hga := TQ.t.g_law
    have e := hmg.symm.trans hga
    cases e
    obtain ⟨fd, F⟩ := TQ.t.f_law
    have b := L2.FunD.bindsA (ps := ["script"]) F fun _ _ _ _ _ _ us hl => match us, hl with | [_], _ => rfl
    exact ⟨K, fd, Fy.spLaw K, KX, fun s v => b s [v] rfl, fun H a ns hl _ hS => ⟨a, ns, rfl, hS, Nat.le_trans hl (by decide), fun _ => rfl⟩, fun base _ _ => Fy.ok_law TQ F⟩
