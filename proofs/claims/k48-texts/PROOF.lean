import PyProof.Rows.All
import Wide.All
import OpenK.AllK
import Wide.FinOn
import KE.GoesEnum
import PyProof.InstNe
import HandS.ForMost
import HandS.Walk
import HandS.SetFor
import HandS.OwnEq
import HandS.Defaults
import HandS.HeadHook2
import HandS.Codes
import PySem.Challenge.RW_growalong_k48_whole_texts_there_and_back
import HandS.IsInst
import HandS.TupSets
import HandS.SortInts
import HandS.RaiseMore
import HandS.Sort
import HandS.Conv
import KE.KStateDown
import Lean
import HandS.Base
import HandS.Call
import HandS.Ends
import HandS.More
import HandS.Words
import HandS.WordsExc
import HandS.Head0
import HandS.Head1
import HandS.Head2
import HandS.HeadEnd
import HandS.HeadHook1
set_option Elab.async false
set_option linter.all false
set_option maxRecDepth 100000
set_option maxHeartbeats 0
namespace GA
open PySem PySem.Spec PyProof.Rows L2
open AutoSeq1 (wpAny_loadPart')

/-! ### enumerate(tuple) -/
theorem meets_enum1 {v : Value} {o : Obj} {H : Heap → Prop} (B : Begins v o H) :
    Meets (Builtin.«enumerate.__new__» ⟨[.type "enumerate", v], []⟩) (fun _ R s => H s.heap ∧
      R (.ok (.ret (.ref (s.heap.push o).objs.size))) { s with heap := (s.heap.push o).push { cls := .type "enumerate", data := .fields #[.none, .bool false, .ref s.heap.objs.size, rawInt 0, .none, .none] } }) :=
  .of_wp fun prog w A R s h => by
    obtain ⟨hp, g, d, tk, os⟩ := s; obtain ⟨h1, h⟩ := h
    have hsub := sub_enumerate
    have q1 : ∀ {A' : Around} {E : Value → Shared → Prop} {Q : Value → Shared → Prop}, Q (.ref hp.objs.size) ⟨hp.push o, g, d, tk, os⟩ → wpAny (model prog w) A' (pyIter v) Q E ⟨hp, g, d, tk, os⟩ :=
      fun q => B.iter prog w _ _ ⟨hp, g, d, tk, os⟩ _ h1 q
    wp_walk using q1
    refine wpAny_stack_any fun st => wpAny_pure ?_
    split
    · rename_i c _ _ _ _ _
      cases (c == Value.type "enumerate")
      · wp_walk using q1
        exact ⟨_, rfl, h⟩
      · wp_walk using q1
        exact ⟨_, rfl, h⟩
    · wp_walk using q1
      exact ⟨_, rfl, h⟩
section
variable {prog : Program} {w : World} {A : Around} {E : Value → Shared → Prop} {s : Shared}
theorem call_enum1 {v : Value} {o : Obj} {H : Heap → Prop} {Q : Value → Shared → Prop} (B : Begins v o H) (h1 : H s.heap)
    (h : ∀ h', IsEnum h' (s.heap.objs.size + 1) s.heap.objs.size 0 .none → h'.get? s.heap.objs.size = some o → h'.objs.size = s.heap.objs.size + 2 →
      (∀ b o, s.heap.get? b = some o → h'.get? b = some o) → Q (.ref (s.heap.objs.size + 1)) { s with heap := h' }) :
    wpAny (model prog w) A (call (.type "enumerate") [v]) Q E s := by
  refine callType_new F.called_enumerate (by decide) (F.typeCall_enumerate_1 _) (F.newCall_enumerate_1 _) (fun obj => F.args_object_init_2 obj _) F.entry_enumerate_new
    (meets_enum1 B) ⟨h1, ?_⟩
  have hz : (s.heap.push o).objs.size = s.heap.objs.size + 1 := Heap.size_push ..
  show _ ∧ _
  rw [hz]
  have he : IsEnum ((s.heap.push o).push { cls := .type "enumerate", data := .fields #[.none, .bool false, .ref s.heap.objs.size, rawInt 0, .none, .none] }) (s.heap.objs.size + 1) s.heap.objs.size 0 .none := by
    have := Heap.get?_push_size (s.heap.push o) (o := { cls := .type "enumerate", data := .fields #[.none, .bool false, .ref s.heap.objs.size, rawInt 0, .none, .none] }) rfl
    rw [hz] at this; exact this
  refine ⟨⟨_, he, rfl⟩, h _ he (Heap.get?_push_of_some _ (Heap.get?_push_size _ B.free)) (by rw [Heap.size_push, hz]) fun b o x => Heap.get?_push_of_some _ (Heap.get?_push_of_some _ x)⟩
end
/-- the tuple at a, each item in a new pair -/
def IteT (K : PySem.W.Frag) (a : Addr) : It :=
  ⟨fun i H => ∃ (xs : List V) (x : V), SqT K H a xs ∧ xs[i]? = some x, fun i H v H' => ∃ T x, v = .ref T ∧ H T = none ∧ H' = upd H T (.tup [.int (i : Nat), x]) ∧ ∀ xs, SqT K H a xs → xs[i]? = some x, fun i H => ∃ xs : List V, SqT K H a xs ∧ xs.length = i⟩
theorem turn_enumT {P : Program} {w : World} {K : PySem.W.Frag} {elts : List Expr} {kk : Nat} {tpos : Pos} (a e it : Addr) (hea : e ≠ a) :
    Turn P w K (.Tuple elts kk tpos) (IteT K a) [e, it] e (fun i h => (∃ old, IsEnum h e it ((i : Nat) : Int) old) ∧ h.IsTupleIter it a i ∧ e ≠ it ∧ a ≠ it) where
  mem := by simp
  obj := fun i h st b hb => by
    obtain ⟨⟨old, he⟩, ⟨o, ho, hc, hd⟩, _⟩ := st
    have e' : b = e ∨ b = it := by simpa using hb
    rcases e' with z | z
    · rw [z]; exact ⟨_, he, fun v q => nomatch q⟩
    · rw [z]; exact ⟨o, ho, fun v q => by rw [hd] at q; cases q⟩
  keep := fun i h h' st k => let ⟨⟨old, he⟩, hi, hne⟩ := st; ⟨⟨old, k e (by simp) _ he⟩, hi.at fun o q => k it (by simp) o q, hne⟩
  item := by
    intro X hP hw hK hc i pins s σ H E I hf st hg
    subst hP hw hK
    obtain ⟨⟨old, he⟩, hit, hne, hai⟩ := st
    obtain ⟨xs, x, hq, hx⟩ := hg
    obtain ⟨its, rv, p, hz⟩ := I.tuple hq
    have hil' : i < its.toArray.size := by
      have q := (List.getElem?_eq_some_iff.mp hx).1
      rw [List.size_toArray, ← rv.length]; exact q
    obtain ⟨u, hu, ru⟩ := rv.get hx
    have hel : e < s.heap.objs.size := Heap.lt_size he
    have hil : it < s.heap.objs.size := by obtain ⟨_, q, _⟩ := hit; exact Heap.lt_size q
    have pt : s.heap.IsTuple a its.toArray := p
    refine wpAny_pyNext_enum_itemC (Draws.tuple (A := X.A.in1) (I.ok.hd hc) it a hai its.toArray) he ⟨hit, pt⟩ hil' hne (by simp [hne, hea]) fun y h' tk hy ho st' hT hsz hk => ?_
    obtain ⟨hit', _⟩ := st'
    have ey : y = u := by
      have q : its.toArray[i]? = some u := by simpa using hu
      rw [hy] at q; exact Option.some.inj q
    subst ey
    refine ⟨_, rfl, wpAny_letOwnedTupleGo_enum (s := { s with heap := h', toks := tk + 1 }) ho fun h'' he' sb => ?_⟩
    have hT2 : h''.get? s.heap.objs.size = some { cls := .type "tuple", data := .seq #[.int i tk, y] } := (sb.2 _ (Nat.ne_of_gt hel)).trans hT
    have new : ObjOk X.prog X.w (upd H s.heap.objs.size (.tup [.int (i : Nat), x])) h'' s.heap.objs.size (.tup [.int (i : Nat), x]) :=
      ⟨by show 2 ≤ sizeLine; decide, [.int i tk, y], .cons ⟨_, rfl⟩ (.cons ru .nil), ⟨_, hT2, rfl, _, rfl⟩⟩
    have I1 : Inv X pins σ (upd H s.heap.objs.size (.tup [.int (i : Nat), x])) { s with heap := h'', toks := tk + 1 } :=
      I.turnedNew (ch := [e, it]) (fun b ob hb q => (sb.2 b (fun z => hb (by simp [z]))).trans (hk b ob (fun z => hb (by simp [z])) (fun z => hb (by simp [z])) q)) hf (Nat.le_refl _) new
    refine ⟨.ref s.heap.objs.size, _, I1, rfl, ⟨_, x, rfl, I.hok.fresh (Nat.le_refl _), rfl, fun ys hy => by rw [I.tuple_inj hy hq]; exact hx⟩, ⟨⟨y, ?_⟩, hit'.at fun o q => (sb.2 it (Ne.symm hne)).trans q, hne, hai⟩, fun b hb => ?_⟩
    · have e1 : ((i + 1 : Nat) : Int) = (i : Int) + 1 := by omega
      rw [e1]; exact he'
    · have hb' : b < s.heap.objs.size := by
        have e' : b = e ∨ b = it := by simpa using hb
        rcases e' with z | z
        · rw [z]; exact hel
        · rw [z]; exact hil
      rw [upd_ne (Nat.ne_of_lt hb')]
      exact (hf b hb).1
  done := by
    intro X hP hw hK hc i pins s σ H E I hf st hg
    subst hP hw hK
    obtain ⟨⟨old, he⟩, hit, hne, hai⟩ := st
    obtain ⟨xs, hq, hx⟩ := hg
    obtain ⟨its, rv, p, hz⟩ := I.tuple hq
    obtain ⟨f0, f1, f2, f3, f4, f5⟩ := hf it (by simp)
    have pt : s.heap.IsTuple a its.toArray := p
    have hl : its.toArray.size = i := by rw [List.size_toArray, ← rv.length]; exact hx
    refine wpAny_pyNext_enum_endD (Draws.tuple (A := X.A.in1) (I.ok.hd hc) it a hai its.toArray) he ⟨by rw [hl]; exact hit, pt⟩ fun h' eb => ⟨rfl, I.turned (t' := s.toks) (fun b o hb q => eb b o hb q) f0 f1 f3 f4 f5⟩
  self := fun A i s Q E st h => let ⟨⟨_, he⟩, _⟩ := st; wpAny_pyIter_enum he h
def iEnumT (K : PySem.W.Frag) (ta : TA) : TI := fun σ H R => ta σ H fun vs H1 => ∃ a xs, vs = [.ref a] ∧ SqT K H1 a xs ∧ R (IteT K a) H1
theorem pi_enumT {X : Cx} {e : Expr} {ta : TA} {p pos tpos : Pos} {elts : List Expr} {kk : Nat} (hg : Gl X "enumerate") (hm : X.mg "enumerate" = none) (ha : PA X [e] ta) (hs : starEach [e] X.env = [(false, eval e X.env)] := by rfl) :
    PI X (.Tuple elts kk tpos) (.Call (.Name "enumerate" p) [e] [] pos) (iEnumT X.K ta) := by
  refine ⟨fun pins s σ H R I h => ?_⟩
  refine Call_ (ld_blt I hg hm boot_enumerate (PyProof.Rows.callWith_type1 (thn (ha.run pos pins s σ H _ I h) fun us s1 ⟨vs, H1, I1, r1, q1⟩ => ?_) hs rfl))
  obtain ⟨a, xs, ex, hq, q⟩ := q1
  subst ex
  cases r1 with
  | cons r rr =>
    cases rr
    cases r
    obtain ⟨its, rv, p', hz⟩ := I1.tuple hq
    have pt : s1.heap.IsTuple a its.toArray := p'
    have hal : a < s1.heap.objs.size := p'.lt
    refine call_enum1 (begins_tuple a its.toArray) pt fun h' he hit hsz hk => wpAny_pyIter_enum he ?_
    have I2 : Inv X pins σ H1 { s1 with heap := h' } := I1.kept (t' := s1.toks) hk
    refine ⟨s1.heap.objs.size + 1, [s1.heap.objs.size + 1, s1.heap.objs.size], _, _, H1, rfl, I2, turn_enumT a (s1.heap.objs.size + 1) s1.heap.objs.size (Nat.ne_of_gt (Nat.lt_of_lt_of_le hal (Nat.le_succ _))), ⟨⟨.none, he⟩, ⟨_, hit, rfl, rfl⟩, Nat.succ_ne_self _, Nat.ne_of_lt hal⟩, fun b hb => ?_, q⟩
    have e' : b = s1.heap.objs.size + 1 ∨ b = s1.heap.objs.size := by simpa using hb
    have hle : s1.heap.objs.size ≤ b := by
      rcases e' with z | z
      · rw [z]; exact Nat.le_add_right _ _
      · rw [z]; exact Nat.le_refl _
    exact I1.fpOk hle (I1.hok.fresh hle)
theorem walk_enumT {K : PySem.W.Frag} {a : Addr} {xs : List V} : Walk (IteT K a) xs.length (fun H => SqT K H a xs) (YPair (fun i => some (.int (i : Nat))) (fun i => xs[i]?)) := by
  refine ⟨fun i _ hi q => ⟨xs, xs[i], q, by simp [hi]⟩, fun _ q => ⟨xs, q, rfl⟩, fun i H v H' _ q y => ?_⟩
  obtain ⟨T, x, h1, h2, h3, h4⟩ := y
  exact ⟨T, .int (i : Nat), x, h1, h2, h3, rfl, h4 xs q⟩

/-! ### len(set(tuple)) of unlike ints -/
def tLenSetT (K : PySem.W.Frag) (ta : TE) : TE := fun σ H Q => ta σ H fun x H1 => ∃ (l : Addr) (ns : List Int), x = .ref l ∧ SqT K H1 l (ns.map V.int) ∧ ns.length ≤ 1000 ∧ ns.Nodup ∧ Q (.int ns.length) H1
theorem pe_lenSetT {X : Cx} {a : Expr} {ta : TE} {p p2 q pos : Pos} (hc : X.calm = true) (hg : Gl X "len") (hm : X.mg "len" = none) (hg2 : Gl X "set") (hm2 : X.mg "set" = none) (ha : PE X a ta)
    (na : starEach [a] X.env = (false, eval a X.env) :: starEach [] X.env := by rfl) : PE X (.Call (.Name "len" p) [.Call (.Name "set" p2) [a] [] q] [] pos) (tLenSetT X.K ta) := by
  refine ⟨fun pins s σ H Q I h => ?_⟩
  refine Call_ (ld_blt I hg hm PySem.boot_len ?_)
  refine PyProof.Rows.callWith_builtin1 (PyProof.Rows.args_cons ?_ rfl) rfl rfl
  refine Call_ (ld_blt I hg2 hm2 PyProof.Rows.boot_set ?_)
  refine PyProof.Rows.callWith_type1 (PyProof.Rows.args_cons (thn (ha.run pins s σ H _ I h) fun v s1 ⟨x, H1, I1, r1, q1⟩ => PyProof.Rows.args_nil ?_) na) na rfl
  obtain ⟨l, ns, rfl, hq, h1, hnd, q1⟩ := q1
  cases r1
  obtain ⟨its, rv, pt, hz⟩ := I1.tuple hq
  have hi : IntsAre its.toArray.toList ns := ints_of_vals rv
  refine call_set_tupI ns (I1.ok.hd hc) (show s1.heap.IsTuple l its.toArray from pt) hi (by unfold scanBound; omega) fun h' tk c R1 hcn k => ?_
  refine PyProof.Rows.args_nil ?_
  obtain ⟨o, es, ep, t, ho, hex, hdt, g, nd, hm2', hb, hf, hn, hr, hl2⟩ := R1
  have I2 : Inv X pins σ H1 { s1 with heap := h', toks := tk } := I1.kept fun b o e => k b o e
  have hp : (es.toList.map keyOf).Perm ns := (List.perm_ext_iff_of_nodup nd hnd).mpr fun j => by
    rw [← hm2' j]; exact decide_eq_true_iff
  have hsz : es.size = ns.length := by
    have z := hp.length_eq
    rw [List.length_map, Array.length_toList] at z
    exact z
  exact call_len_set ho hex hdt hf (by rw [hsz]; omega) ⟨.int ns.length, H1, I2.tok _, ⟨_, by rw [hsz]⟩, q1⟩

/-! ### != by an own __eq__ -/
/-- what the written part says of a class with an own __eq__ and no __ne__ -/
def NeC (K : PySem.W.Frag) (C f : Addr) : Prop :=
  ∃ (nm q : Str) (N : Addr) (bs : List Value) (hdct : Bool) (sn : List Str) (sub : List Value) (ab : Bool) (col : Option Bool) (dd : Option Addr) (k0 k1 k2 k3 k5 : Option Value) (newId : String) (oN oF : Obj) (es : Array DictEntry) (ep : Nat),
    K.lookup C = some (excClassObj nm q C N bs [.type "object"] hdct sn sub ab col dd k0 k1 k2 k3 k5 newId) ∧ K.lookup N = some oN ∧ oN.data = .dict es ep ∧ StrKeys es ∧ nsFind es "__eq__" = some (.ref f) ∧ nsFind es "__ne__" = none ∧
    K.lookup f = some oF ∧ oF.cls = .type "function"
/-- what the own == promises: a Bool, where D stands -/
def spEqB (D : Addr → Addr → Hp → Prop) : Sp := fun vs H Q _ => ∃ a b, vs = [.ref a, .ref b] ∧ D a b H ∧ ∀ H', Same H H' → Q (.bl true) H'
def rNeOwn (C : Addr) (D : Addr → Addr → Hp → Prop) : R2 := fun x y H Q => ∃ a b dx dy fs gs, x = .ref a ∧ y = .ref b ∧ H a = some (.ins C dx fs) ∧ H b = some (.ins C dy gs) ∧ D a b H ∧ ∀ H', Same H H' → Q (.bl false) H'
theorem ins_obj {X : Cx} {pins : List (Addr × Obj)} {σ : L2.St} {H : Hp} {s : Shared} {a C dx : Addr} {fs : List (Str × V)} (I : Inv X pins σ H s) (h : H a = some (.ins C dx fs)) : s.heap.get? a = some (PySem.W.instObj C dx) := by
  obtain ⟨_, _, _, e, _⟩ := (show ObjOk X.prog X.w H s.heap a (.ins C dx fs) from I.hok a _ h)
  exact e
theorem op_neOwn {X : Cx} {C f : Addr} {fd : FuncData} {ps : List Str} {n : Nat} {D : Addr → Addr → Hp → Prop} (F : FnOk X.prog X.w X.K X.mg X.base CX0 n f fd ps (spEqB D)) (c : NeC X.K C f) (hr : Room (n + 1) X.A) (hb : Binds X.K fd ps []) :
    OpR X (compareOp .NotEq) (rNeOwn C D) := by
  intro pins s σ H x y u v Q I rx ry h
  obtain ⟨a, b, dx, dy, fs, gs, rfl, rfl, ha, hb', hD, q⟩ := h
  cases rx
  cases ry
  obtain ⟨nm, qn, N, bs, hdct, sn, sub, ab, col, dd, k0, k1, k2, k3, k5, newId, oN, oF, es, ep, cC, cN, dN, sk, fe, fn, cF, fc⟩ := c
  have e1 := ins_obj I ha
  have e2 := ins_obj I hb'
  have N1 : s.heap.Ns N (nsFind es) := ⟨oN, es, ep, I.kIn _ _ cN, dN, sk, fun _ => rfl⟩
  have hy0 : typeLookup (.type "object") "__eq__" = pure (some (.builtin "object.__eq__")) := by rw [typeLookup_type, builtinLookup_eq_fast]; kernel_rfl
  have X1 : s.heap.OwnEqNoNe a C f "object" [.type "object"] :=
    ⟨_, oF, nm, qn, N, bs, hdct, sn, sub, ab, col, dd, k0, k1, k2, k3, k5, newId, nsFind es, _, e1, rfl, I.kIn _ _ cC, N1, fe, I.kIn _ _ cF, fc, PySem.F.mro_object, hy0, fn⟩
  obtain ⟨hh, g, d, t, os⟩ := s
  refine compareOp_ne_ownEq PySem.F.cmp_object X1 e2 rfl (by have := hr.un; omega) ?_
  have hsp : spEqB D [.ref a, .ref b] H (fun v H' => v = .bl true ∧ Same H H') E0 := ⟨a, b, rfl, hD, fun H' e => ⟨rfl, e⟩⟩
  have hr1 : Room n X.A.in1 := hr.in1
  have e0 : Env0 X.prog X.w X.K X.mg X.base X.A.in1 X.stack ⟨hh, g, d, t, os⟩ H := by
    have e := I.env0
    exact ⟨e.frames, e.mod, e.bs, e.bsz, e.funs, e.frf, e.hok, e.bare⟩
  have hl := F.len _ _ _ _ hsp
  have r2 : Vals [V.ref a, V.ref b] [Value.ref a, Value.ref b] := .cons rfl (.cons rfl .nil)
  refine wpAny_call (codeAny_mono (F.run X.A.in1 X.stack ⟨hh, g, d, t, os⟩ H ⟨[.ref a, .ref b], []⟩ [.ref a, .ref b] [.ref a, .ref b] _ E0 hr1 e0 (by
    have := hb ⟨hh, g, d, t, os⟩ [.ref a, .ref b] I.kIn (by simpa using hl)
    simpa using this) r2 hsp) fun r s' hq => ?_)
  cases r with
  | error e => exact pass0 (X := X) pins σ H _ e s' I hq
  | ok fl =>
    cases fl with
    | ret w =>
      obtain ⟨z, H', I', rz, ez, ex⟩ := I.after hq
      subst ez
      cases rz
      exact ⟨true, rfl, .bl false, H', I', rfl, q H' ex⟩
    | next => exact False.elim hq
    | brk => exact False.elim hq
    | cont => exact False.elim hq
end GA
/-! GaLib: what heaps keep, data in a heap, comprehensions by what they gather. -/
namespace GA
open PySem PySem.Spec PyProof.Rows L2
/-! ### what is kept -/
/-- all but a is kept -/
def Keep (a : Addr) (H H' : Hp) : Prop := ∀ b o, b ≠ a → H b = some o → H' b = some o
/-- the tuples are kept -/
def Im (H H' : Hp) : Prop := ∀ b xs, H b = some (.tup xs) → H' b = some (.tup xs)
section
variable {H H1 H2 H' : Hp} {a b p : Addr} {o : HO} {xs : List V}
theorem Im.refl (H : Hp) : Im H H := fun _ _ h => h
theorem Im.trans (h1 : Im H H1) (h2 : Im H1 H2) : Im H H2 := fun b xs h => h2 b xs (h1 b xs h)
theorem same_im (h : Same H H') : Im H H' := fun b xs e => h b _ e
theorem Keep.refl (a : Addr) (H : Hp) : Keep a H H := fun _ _ _ h => h
theorem Keep.trans (h1 : Keep a H H1) (h2 : Keep a H1 H2) : Keep a H H2 := fun b o n h => h2 b o n (h1 b o n h)
theorem same_keep (h : Same H H') : Keep a H H' := fun b o _ e => h b o e
theorem Keep.im (h : Keep a H H') (n : ∀ xs, H a ≠ some (.tup xs)) : Im H H' := fun b xs e => h b _ (fun z => n xs (by rw [← z]; exact e)) e
theorem Keep.imL (h : Keep a H H') {xs : List V} (n : H a = some (.lst xs)) : Im H H' := h.im fun ys e => by rw [n] at e; cases e
theorem keep_upd : Keep a H (upd H a o) := fun b u n e => by rw [upd_ne n]; exact e
theorem Keep.put (h : Keep a H H') : Keep a H (upd H' a o) := h.trans keep_upd
theorem keep_none (h : Keep a H H') (n : H a = none) : Same H H' := fun b o e => h b o (ne_of_none e n) e
theorem Keep.mut (h : Keep a H H') (n : H p = none) : Keep a H (upd H' p o) := fun b u nb e => by
  rw [upd_ne (ne_of_none e n)]; exact h b u nb e
theorem same_new (n : H p = none) : Same H (upd H p o) := fun b u e => by rw [upd_ne (ne_of_none e n)]; exact e
theorem same_mut (h : Same H H') (n : H p = none) : Same H (upd H' p o) := fun b u e => by rw [upd_ne (ne_of_none e n)]; exact h b u e
theorem im_new (n : H p = none) : Im H (upd H p o) := same_im (same_new n)
theorem im_lst (n : H p = some (.lst xs)) : Im H (upd H p o) := fun b ys e => by
  rw [upd_ne (ne_of e n (fun z => nomatch z))]; exact e
theorem Keep.none (h : Keep a H H') (n : b ≠ a) (e : H' b = none) : H b = none := by
  cases q : H b with
  | none => rfl
  | some o => rw [h b o n q] at e; cases e
theorem Same.none (h : Same H H') (e : H' b = none) : H b = none := h.free e
end
theorem size_ok {n : Nat} (h : n ≤ 100000) : n ≤ sizeLine := Nat.le_trans h (by decide)
theorem size_lt {n : Nat} (h : n < 100000) : n < sizeLine := Nat.lt_of_lt_of_le h (by decide)
/-! ### data -/
/-- a tuple of ints; a tuple of such tuples -/
def TI (H : Hp) (v : V) (ns : List Int) : Prop := ∃ a, v = .ref a ∧ H a = some (.tup (ns.map V.int))
def TTI (H : Hp) (v : V) (ls : List (List Int)) : Prop := ∃ a xs, v = .ref a ∧ H a = some (.tup xs) ∧ Paired (TI H) xs ls
/-- a list of ints; of tuples of ints -/
def LI (H : Hp) (v : V) (ns : List Int) : Prop := ∃ a, v = .ref a ∧ H a = some (.lst (ns.map V.int))
def LTI (H : Hp) (v : V) (ls : List (List Int)) : Prop := ∃ a xs, v = .ref a ∧ H a = some (.lst xs) ∧ Paired (TI H) xs ls
section
variable {H H' : Hp} {v : V} {ns : List Int} {ls : List (List Int)} {xs : List V}
theorem TI.im (h : TI H v ns) (k : Im H H') : TI H' v ns := let ⟨a, e, q⟩ := h; ⟨a, e, k _ _ q⟩
theorem pti_im (h : Paired (TI H) xs ls) (k : Im H H') : Paired (TI H') xs ls := h.mono fun _ _ q => q.im k
theorem TTI.im (h : TTI H v ls) (k : Im H H') : TTI H' v ls := let ⟨a, xs, e, q, p⟩ := h; ⟨a, xs, e, k _ _ q, pti_im p k⟩
theorem LI.same (h : LI H v ns) (k : Same H H') : LI H' v ns := let ⟨a, e, q⟩ := h; ⟨a, e, k _ _ q⟩
theorem LTI.same (h : LTI H v ls) (k : Same H H') : LTI H' v ls := let ⟨a, xs, e, q, p⟩ := h; ⟨a, xs, e, k _ _ q, pti_im p (same_im k)⟩
end
theorem paired_get {α β : Type} {F : α → β → Prop} : ∀ {xs : List α} {ys : List β} {i : Nat} {x : α}, Paired F xs ys → xs[i]? = some x → ∃ y, ys[i]? = some y ∧ F x y
  | _, _, _, _, .nil, e => by simp at e
  | _, _, 0, _, .cons h _, e => by simp at e; subst e; exact ⟨_, rfl, h⟩
  | _, _, i + 1, x, .cons _ t, e => by
    obtain ⟨y, h1, h2⟩ := paired_get (i := i) (x := x) t (by simpa using e)
    exact ⟨y, by simpa using h1, h2⟩
theorem paired_getR {α β : Type} {F : α → β → Prop} : ∀ {xs : List α} {ys : List β} {i : Nat} {y : β}, Paired F xs ys → ys[i]? = some y → ∃ x, xs[i]? = some x ∧ F x y
  | _, _, _, _, .nil, e => by simp at e
  | _, _, 0, _, .cons h _, e => by simp at e; subst e; exact ⟨_, rfl, h⟩
  | _, _, i + 1, y, .cons _ t, e => by
    obtain ⟨x, h1, h2⟩ := paired_getR (i := i) (y := y) t (by simpa using e)
    exact ⟨x, by simpa using h1, h2⟩
theorem paired_append {α β : Type} {F : α → β → Prop} : ∀ {xs us : List α} {ys vs : List β}, Paired F xs ys → Paired F us vs → Paired F (xs ++ us) (ys ++ vs)
  | _, _, _, _, .nil, h => h
  | _, _, _, _, .cons h t, q => .cons h (paired_append t q)
/-- values that are just ints, texts, Bools -/
theorem paired_map {β : Type} {f : β → V} {xs : List V} {ds : List β} (h : Paired (fun x d => x = f d) xs ds) : xs = ds.map f := by
  induction h with
  | nil => rfl
  | cons e _ ih => rw [e, ih]; rfl
theorem paired_of_map {β : Type} {f : β → V} : ∀ ds : List β, Paired (fun x d => x = f d) (ds.map f) ds
  | [] => .nil
  | _ :: r => .cons rfl (paired_of_map r)
/-! ### comprehensions by what they gather -/
/-- Rl: what a turn keeps; S: what stands between the turns -/
structure Rk (Rl : Hp → Hp → Prop) (S : Hp → Prop) (H1 : Hp) (D : Addr) : Prop where
  start : ∀ o, Rl H1 (upd H1 D o)
  trans : ∀ H H', Rl H1 H → Rl H H' → Rl H1 H'
  keepD : ∀ H H' o, Rl H1 H → S H → Rl H H' → H D = some o → H' D = some o
  mutD : ∀ H o, Rl H1 H → Rl H1 (upd H D o)
  sD : ∀ H o ys, Rl H1 H → S H → H D = some (.lst ys) → S (upd H D o)
  im : ∀ H H', S H → Rl H H' → Im H H'
theorem lc_acc {J : It} {n : Nat} {G : Hp → Prop} {Y : Nat → Hp → V → Hp → Prop} (w : Walk J n G Y) {g : TG} {tt : TT} {te : TE} {vs : List Nat} {σ : L2.St} {H1 : Hp} {D : Addr} {Qd : Hp → Prop} {β : Type}
    (Rl : Hp → Hp → Prop) (S : Hp → Prop) (R : V → β → Hp → Prop) (A : Nat → List β → Prop) (k : Rk Rl S H1 D) (hR : ∀ y d H H', Im H H' → R y d H → R y d H') (hA : A 0 []) (hS : S (upd H1 D (.lst []))) (hG : ∀ H, Rl H1 H → S H → G H) (hn : n ≤ 100000)
    (turn : ∀ i x H H' ds, i < n → Rl H1 H → S H → A i ds → ds.length ≤ i → Y i H x H' → ∀ (Qt : V → Hp → Prop) (Qf : Hp → Prop),
      (∀ y d H4, Rl H H4 → S H4 → R y d H4 → A (i + 1) (ds ++ [d]) → Qt y H4) → (∀ H3, Rl H H3 → S H3 → A (i + 1) ds → Qf H3) →
      g x (wipe σ vs) H' fun σ2 H2 => wipe σ2 vs = wipe σ vs ∧ tt σ2 H2 fun b H3 => if b = true then te σ2 H3 Qt else Qf H3)
    (hd : ∀ H' ys ds, Rl H1 H' → S H' → H' D = some (.lst ys) → Paired (fun y d => R y d H') ys ds → A n ds → ds.length ≤ n → Qd H') :
    ∃ W : Nat → Nat → Hp → Prop, (∃ m, W 0 m (upd H1 D (.lst []))) ∧ ∀ i m H, W i m H →
      (J.stop i H ∧ Qd H) ∨ (J.go i H ∧ ∃ Nx : Hp → Prop, (∀ H', Nx H' → ∃ m', m' < m ∧ W (i + 1) m' H') ∧ ∀ x H', J.yld i H x H' → g x (wipe σ vs) H' fun σ2 H2 => wipe σ2 vs = wipe σ vs ∧ tt σ2 H2 fun b H3 =>
        if b = true then te σ2 H3 fun y H4 => ∃ acc, H4 D = some (.lst acc) ∧ acc.length < sizeLine ∧ Nx (upd H4 D (.lst (acc ++ [y]))) else Nx H3) := by
  refine lc_it w (fun i H => Rl H1 H ∧ S H ∧ ∃ ys ds, H D = some (.lst ys) ∧ Paired (fun y d => R y d H) ys ds ∧ A i ds ∧ ds.length ≤ i) ⟨k.start _, hS, [], [], upd_same, .nil, hA, Nat.le_refl _⟩ (fun i H _ p => hG H p.1 p.2.1) ?_ ?_
  · rintro i x H H' hi ⟨r, s, ys, ds, e, pr, ha, hl⟩ hy
    refine turn i x H H' ds hi r s ha hl hy _ _ (fun y d H4 r4 s4 q4 a4 => ?_) (fun H3 r3 s3 a3 => ?_)
    · have e4 := k.keepD H H4 _ r s r4 e
      have hyl := pr.length
      refine ⟨ys, e4, size_lt (by omega), k.mutD _ _ (k.trans _ _ r r4), k.sD _ _ _ (k.trans _ _ r r4) s4 e4, ys ++ [y], ds ++ [d], upd_same, ?_, a4, by rw [List.length_append]; exact Nat.succ_le_succ hl⟩
      refine paired_append ((pr.mono fun y d q => hR y d _ _ ((k.im _ _ s r4).trans (im_lst e4)) q)) (.cons (hR _ _ _ _ (im_lst e4) q4) .nil)
    · have e3 := k.keepD H H3 _ r s r3 e
      exact ⟨k.trans _ _ r r3, s3, ys, ds, e3, pr.mono fun y d q => hR y d _ _ (k.im _ _ s r3) q, a3, Nat.le_succ_of_le hl⟩
  · rintro H ⟨r, s, ys, ds, e, pr, ha, hl⟩
    exact hd H ys ds r s e pr ha hl
theorem rk_same {H1 : Hp} {D : Addr} (n : H1 D = none) : Rk Same (fun _ => True) H1 D where
  start := fun _ => same_new n
  trans := fun _ _ => Same.trans
  keepD := fun H H' o _ _ r e => r _ _ e
  mutD := fun _ _ r => same_mut r n
  sD := fun _ _ _ _ _ _ => trivial
  im := fun _ _ _ r => same_im r
/-- nothing but new things is made -/
theorem lc_same {J : It} {n : Nat} {G : Hp → Prop} {Y : Nat → Hp → V → Hp → Prop} (w : Walk J n G Y) {g : TG} {tt : TT} {te : TE} {vs : List Nat} {σ : L2.St} {H1 : Hp} {D : Addr} {Qd : Hp → Prop} {β : Type}
    (R : V → β → Hp → Prop) (A : Nat → List β → Prop) (n1 : H1 D = none) (hR : ∀ y d H H', Im H H' → R y d H → R y d H') (hA : A 0 []) (hG : ∀ H, Same H1 H → G H) (hn : n ≤ 100000)
    (turn : ∀ i x H H' ds, i < n → Same H1 H → A i ds → Y i H x H' → ∀ (Qt : V → Hp → Prop) (Qf : Hp → Prop),
      (∀ y d H4, Same H H4 → R y d H4 → A (i + 1) (ds ++ [d]) → Qt y H4) → (∀ H3, Same H H3 → A (i + 1) ds → Qf H3) →
      g x (wipe σ vs) H' fun σ2 H2 => wipe σ2 vs = wipe σ vs ∧ tt σ2 H2 fun b H3 => if b = true then te σ2 H3 Qt else Qf H3)
    (hd : ∀ H' ys ds, Same H1 H' → H' D = some (.lst ys) → Paired (fun y d => R y d H') ys ds → A n ds → ds.length ≤ n → Qd H') :
    ∃ W : Nat → Nat → Hp → Prop, (∃ m, W 0 m (upd H1 D (.lst []))) ∧ ∀ i m H, W i m H →
      (J.stop i H ∧ Qd H) ∨ (J.go i H ∧ ∃ Nx : Hp → Prop, (∀ H', Nx H' → ∃ m', m' < m ∧ W (i + 1) m' H') ∧ ∀ x H', J.yld i H x H' → g x (wipe σ vs) H' fun σ2 H2 => wipe σ2 vs = wipe σ vs ∧ tt σ2 H2 fun b H3 =>
        if b = true then te σ2 H3 fun y H4 => ∃ acc, H4 D = some (.lst acc) ∧ acc.length < sizeLine ∧ Nx (upd H4 D (.lst (acc ++ [y]))) else Nx H3) :=
  lc_acc w Same (fun _ => True) R A (rk_same n1) hR hA trivial (fun H r _ => hG H r) hn
    (fun i x H H' ds hi r _ ha _ hy Qt Qf k1 k2 => turn i x H H' ds hi r ha hy Qt Qf (fun y d H4 r4 q4 a4 => k1 y d H4 r4 trivial q4 a4) fun H3 r3 a3 => k2 H3 r3 trivial a3)
    fun H' ys ds r _ e p a l => hd H' ys ds r e p a l
/-- every item mapped: the i-th by f i -/
theorem lc_map {J : It} {n : Nat} {G : Hp → Prop} {Y : Nat → Hp → V → Hp → Prop} (w : Walk J n G Y) {g : TG} {te : TE} {vs : List Nat} {σ : L2.St} {H1 : Hp} {D : Addr} {Qd : Hp → Prop} {β : Type}
    (R : V → β → Hp → Prop) (f : Nat → β) (n1 : H1 D = none) (hR : ∀ y d H H', Im H H' → R y d H → R y d H') (hG : ∀ H, Same H1 H → G H) (hn : n ≤ 100000)
    (turn : ∀ i x H H', i < n → Same H1 H → Y i H x H' → ∀ (Qt : V → Hp → Prop), (∀ y H4, Same H H4 → R y (f i) H4 → Qt y H4) →
      g x (wipe σ vs) H' fun σ2 H2 => wipe σ2 vs = wipe σ vs ∧ te σ2 H2 Qt)
    (hd : ∀ H' ys, Same H1 H' → H' D = some (.lst ys) → Paired (fun y d => R y d H') ys ((List.range n).map f) → Qd H') :
    ∃ W : Nat → Nat → Hp → Prop, (∃ m, W 0 m (upd H1 D (.lst []))) ∧ ∀ i m H, W i m H →
      (J.stop i H ∧ Qd H) ∨ (J.go i H ∧ ∃ Nx : Hp → Prop, (∀ H', Nx H' → ∃ m', m' < m ∧ W (i + 1) m' H') ∧ ∀ x H', J.yld i H x H' → g x (wipe σ vs) H' fun σ2 H2 => wipe σ2 vs = wipe σ vs ∧ tYes σ2 H2 fun b H3 =>
        if b = true then te σ2 H3 fun y H4 => ∃ acc, H4 D = some (.lst acc) ∧ acc.length < sizeLine ∧ Nx (upd H4 D (.lst (acc ++ [y]))) else Nx H3) :=
  lc_same w R (fun i ds => ds = (List.range i).map f) n1 hR rfl hG hn
    (fun i x H H' ds hi r ha hy Qt Qf k1 _ => turn i x H H' hi r hy Qt fun y H4 r4 q4 => k1 y (f i) H4 r4 q4 (by rw [ha, List.range_succ, List.map_append]; rfl))
    fun H' ys ds r e p a l => by subst a; exact hd H' ys r e p
theorem range_map_get {α : Type} (d : α) (xs : List α) : (List.range xs.length).map (fun i => xs.getD i d) = xs := by
  apply List.ext_getElem
  · simp
  · intro i h1 h2
    simp [List.getD_eq_getElem?_getD, h2]
theorem range_map_getF {α β : Type} (d : α) (xs : List α) (f : α → β) : (List.range xs.length).map (fun i => f (xs.getD i d)) = xs.map f := by
  have h := congrArg (List.map f) (range_map_get d xs)
  rw [List.map_map] at h
  exact h
/-! ### rules with the written part named: for the blocks of comprehensions -/
section
variable {X : Cx} {K : PySem.W.Frag}
theorem k_in (e : X.K = K := by rfl) : OpR X (compareOp .In) (rIn K false) := by subst e; exact op_in_seq
theorem k_notIn (e : X.K = K := by rfl) : OpR X (compareOp .NotIn) (rIn K true) := by subst e; exact op_notIn_seq
theorem k_ixL (e : X.K = K := by rfl) : IxR X (rIxL K) := by subst e; exact ix_list
theorem k_ixT (e : X.K = K := by rfl) : IxR X (rIxT K) := by subst e; exact ix_tup
theorem k_ltT (hu : X.A.units < cLine) (e : X.K = K := by rfl) : OpR X (compareOp .Lt) (rLtT K) := by subst e; exact op_ltT hu
theorem k_catA (e : X.K = K := by rfl) : OpR X (binaryOp .Add) (rCatT K) := by subst e; exact op_catT
theorem k_len (e : X.K = K := by rfl) : CallR X (.builtin "len") (fun xs H Q => ∃ p ys, xs = [.ref p] ∧ (SqL K H p ys ∨ SqT K H p ys) ∧ Q (.int ys.length) H) := by subst e; exact call_len_seq
theorem k_count (e : X.K = K := by rfl) : MtR X "list.count" (rCntI K) := by subst e; exact mt_lcount
theorem k_join (e : X.K = K := by rfl) : MtR X "str.join" (fun x xs H Q => ∃ a p, ∃ ys : List Str, x = .str a ∧ xs = [.ref p] ∧ (SqL K H p (ys.map V.str) ∨ SqT K H p (ys.map V.str)) ∧ (ys.map (·.length)).sum + ys.length * a.length ≤ 16777216 ∧ Q (.str (Txt.join a ys)) H) := by subst e; exact mt_join
end
end GA
namespace GA
open PySem PySem.Spec PyProof.Rows L2
def top (i : Nat) : Stmt := PySem.Challenge.pw_growalong_k48_whole_texts_there_and_back.main.body.getD i (.Pass ⟨0, 0, 0, 0⟩)

abbrev s_is_integer : Stmt := top 7
abbrev s_is_within : Stmt := top 8
abbrev s_is_pair : Stmt := top 9
abbrev s_is_sized : Stmt := top 10
abbrev s_are_unlike : Stmt := top 11
abbrev s_is_wire_pair : Stmt := top 14
abbrev s_raw_web : Stmt := top 17
abbrev s_outs : Stmt := top 18
abbrev s_reach_of : Stmt := top 19
abbrev s_doubled : Stmt := top 20
abbrev s_is_link : Stmt := top 28
abbrev s_are_links : Stmt := top 29
abbrev s_web_of : Stmt := top 30
abbrev s_closed : Stmt := top 35
abbrev s_told : Stmt := top 36
abbrev s_web_text : Stmt := top 37
abbrev s_record_text : Stmt := top 38
abbrev s_hall_text : Stmt := top 39
abbrev s_number_in : Stmt := top 40
abbrev s_numbers_in : Stmt := top 41
abbrev s_lines_of : Stmt := top 42
abbrev s_check_end : Stmt := top 43
abbrev s_parts_in : Stmt := top 44
abbrev s_read_web : Stmt := top 45
abbrev s_read_record : Stmt := top 46
abbrev s_read_hall : Stmt := top 47
abbrev s_law_hand : Stmt := top 49
abbrev s_law_draw : Stmt := top 50
abbrev s_law_wires : Stmt := top 51
abbrev s_law_web : Stmt := top 52
abbrev s_law_lines : Stmt := top 53
abbrev s_law_is : Stmt := top 54
abbrev s_law_shuffled : Stmt := top 55
abbrev s_law_some_record : Stmt := top 56
abbrev s_law_hall : Stmt := top 57
abbrev s_law : Stmt := top 58
abbrev s_Web_init : Stmt := inClass (top 15) 0
abbrev s_Web_keep : Stmt := inClass (top 15) 1
abbrev s_Web_eq : Stmt := inClass (top 15) 2
abbrev s_RawWeb_init : Stmt := inClass (top 16) 0
abbrev s_RawWeb_keep : Stmt := inClass (top 15) 1
abbrev s_Record_init : Stmt := inClass (top 24) 0
abbrev s_Record_keep : Stmt := inClass (top 24) 1
abbrev s_Record_eq : Stmt := inClass (top 24) 2
abbrev s_Hall_init : Stmt := inClass (top 31) 0
abbrev s_Hall_eq : Stmt := inClass (top 31) 1
theorem sc_is_integer : FnScope ["thing"] ["thing"] (defScope s_is_integer) := ⟨rfl, rfl, rfl, by decide +kernel, rfl, by decide +kernel, by decide +kernel⟩
theorem sc_is_within : FnScope ["thing", "least", "most"] ["thing", "least", "most"] (defScope s_is_within) := ⟨rfl, rfl, rfl, by decide +kernel, rfl, by decide +kernel, by decide +kernel⟩
theorem sc_is_pair : FnScope ["thing"] ["thing"] (defScope s_is_pair) := ⟨rfl, rfl, rfl, by decide +kernel, rfl, by decide +kernel, by decide +kernel⟩
theorem sc_is_sized : FnScope ["thing", "least", "most"] ["thing", "least", "most"] (defScope s_is_sized) := ⟨rfl, rfl, rfl, by decide +kernel, rfl, by decide +kernel, by decide +kernel⟩
theorem sc_are_unlike : FnScope ["thing", "size", "number"] ["thing", "size"] (defScope s_are_unlike) := ⟨rfl, rfl, rfl, by decide +kernel, rfl, by decide +kernel, by decide +kernel⟩
theorem sc_is_wire_pair : FnScope ["many", "thing", "machine"] ["many", "thing"] (defScope s_is_wire_pair) := ⟨rfl, rfl, rfl, by decide +kernel, rfl, by decide +kernel, by decide +kernel⟩
theorem sc_raw_web : FnScope ["machines", "wires"] ["machines", "wires"] (defScope s_raw_web) := ⟨rfl, rfl, rfl, by decide +kernel, rfl, by decide +kernel, by decide +kernel⟩
theorem sc_outs : FnScope ["web", "machine", "y", "x"] ["web", "machine"] (defScope s_outs) := ⟨rfl, rfl, rfl, by decide +kernel, rfl, by decide +kernel, by decide +kernel⟩
theorem sc_reach_of : FnScope ["web", "machine", "found", "done", "x"] ["web", "machine"] (defScope s_reach_of) := ⟨rfl, rfl, rfl, by decide +kernel, rfl, by decide +kernel, by decide +kernel⟩
theorem sc_doubled : FnScope ["pairs", "y", "x"] ["pairs"] (defScope s_doubled) := ⟨rfl, rfl, rfl, by decide +kernel, rfl, by decide +kernel, by decide +kernel⟩
theorem sc_is_link : FnScope ["thing", "nodes"] ["thing", "nodes"] (defScope s_is_link) := ⟨rfl, rfl, rfl, by decide +kernel, rfl, by decide +kernel, by decide +kernel⟩
theorem sc_are_links : FnScope ["thing", "link", "at"] ["thing"] (defScope s_are_links) := ⟨rfl, rfl, rfl, by decide +kernel, rfl, by decide +kernel, by decide +kernel⟩
theorem sc_web_of : FnScope ["links"] ["links"] (defScope s_web_of) := ⟨rfl, rfl, rfl, by decide +kernel, rfl, by decide +kernel, by decide +kernel⟩
theorem sc_closed : FnScope ["lines", "line"] ["lines"] (defScope s_closed) := ⟨rfl, rfl, rfl, by decide +kernel, rfl, by decide +kernel, by decide +kernel⟩
theorem sc_told : FnScope ["word", "numbers", "number"] ["word", "numbers"] (defScope s_told) := ⟨rfl, rfl, rfl, by decide +kernel, rfl, by decide +kernel, by decide +kernel⟩
theorem sc_web_text : FnScope ["web", "wire"] ["web"] (defScope s_web_text) := ⟨rfl, rfl, rfl, by decide +kernel, rfl, by decide +kernel, by decide +kernel⟩
theorem sc_record_text : FnScope ["record", "diary"] ["record"] (defScope s_record_text) := ⟨rfl, rfl, rfl, by decide +kernel, rfl, by decide +kernel, by decide +kernel⟩
theorem sc_hall_text : FnScope ["hall", "link"] ["hall"] (defScope s_hall_text) := ⟨rfl, rfl, rfl, by decide +kernel, rfl, by decide +kernel, by decide +kernel⟩
theorem sc_number_in : FnScope ["word", "sign"] ["word"] (defScope s_number_in) := ⟨rfl, rfl, rfl, by decide +kernel, rfl, by decide +kernel, by decide +kernel⟩
theorem sc_numbers_in : FnScope ["line", "word", "words", "numbers", "other"] ["line", "word"] (defScope s_numbers_in) := ⟨rfl, rfl, rfl, by decide +kernel, rfl, by decide +kernel, by decide +kernel⟩
theorem sc_lines_of : FnScope ["text", "lines"] ["text"] (defScope s_lines_of) := ⟨rfl, rfl, rfl, by decide +kernel, rfl, by decide +kernel, by decide +kernel⟩
theorem sc_check_end : FnScope ["lines", "rest"] ["lines", "rest"] (defScope s_check_end) := ⟨rfl, rfl, rfl, by decide +kernel, rfl, by decide +kernel, by decide +kernel⟩
theorem sc_parts_in : FnScope ["text", "first", "later", "sizes", "lines", "rest", "found", "at", "line", "numbers", "size"] ["text", "first", "later", "sizes"] (defScope s_parts_in) := ⟨rfl, rfl, rfl, by decide +kernel, rfl, by decide +kernel, by decide +kernel⟩
theorem sc_read_web : FnScope ["text", "found"] ["text"] (defScope s_read_web) := ⟨rfl, rfl, rfl, by decide +kernel, rfl, by decide +kernel, by decide +kernel⟩
theorem sc_read_record : FnScope ["text", "found"] ["text"] (defScope s_read_record) := ⟨rfl, rfl, rfl, by decide +kernel, rfl, by decide +kernel, by decide +kernel⟩
theorem sc_read_hall : FnScope ["text", "found"] ["text"] (defScope s_read_hall) := ⟨rfl, rfl, rfl, by decide +kernel, rfl, by decide +kernel, by decide +kernel⟩
theorem sc_law_hand : FnScope ["_law_script", "_law_cells", "_law_cell"] ["_law_script"] (defScope s_law_hand) := ⟨rfl, rfl, rfl, by decide +kernel, rfl, by decide +kernel, by decide +kernel⟩
theorem sc_law_draw : FnScope ["_law_hand_here", "_law_many", "_law_cell", "_law_digit", "_law_number"] ["_law_hand_here", "_law_many"] (defScope s_law_draw) := ⟨rfl, rfl, rfl, by decide +kernel, rfl, by decide +kernel, by decide +kernel⟩
theorem sc_law_wires : FnScope ["_law_hand_here", "_law_machines", "_law_share", "_law_found", "_law_y", "_law_x"] ["_law_hand_here", "_law_machines", "_law_share"] (defScope s_law_wires) := ⟨rfl, rfl, rfl, by decide +kernel, rfl, by decide +kernel, by decide +kernel⟩
theorem sc_law_web : FnScope ["_law_hand_here", "_law_most", "_law_machines"] ["_law_hand_here", "_law_most"] (defScope s_law_web) := ⟨rfl, rfl, rfl, by decide +kernel, rfl, by decide +kernel, by decide +kernel⟩
theorem sc_law_lines : FnScope ["_law_rows", "_law_row", "_law_word"] ["_law_rows"] (defScope s_law_lines) := ⟨rfl, rfl, rfl, by decide +kernel, rfl, by decide +kernel, by decide +kernel⟩
theorem sc_law_is : FnScope ["_law_told", "_law_due", "_law_one", "_law_two"] ["_law_told", "_law_due"] (defScope s_law_is) := ⟨rfl, rfl, rfl, by decide +kernel, rfl, by decide +kernel, by decide +kernel⟩
theorem sc_law_shuffled : FnScope ["_law_hand_here", "_law_things", "_law_left", "_law_found"] ["_law_hand_here", "_law_things"] (defScope s_law_shuffled) := ⟨rfl, rfl, rfl, by decide +kernel, rfl, by decide +kernel, by decide +kernel⟩
theorem sc_law_some_record : FnScope ["_law_hand_here", "_law_machines", "_law_writers", "_law_diaries", "_law_x", "_law_some", "_law_put"] ["_law_hand_here"] (defScope s_law_some_record) := ⟨rfl, rfl, rfl, by decide +kernel, rfl, by decide +kernel, by decide +kernel⟩
theorem sc_law_hall : FnScope ["_law_hand_here", "_law_nodes", "_law_links", "_law_ends", "_law_one", "_law_other", "_law_places", "_law_turn", "_law_names", "_law_node", "_law_link"] ["_law_hand_here"] (defScope s_law_hall) := ⟨rfl, rfl, rfl, by decide +kernel, rfl, by decide +kernel, by decide +kernel⟩
theorem sc_law : FnScope ["_law_script", "_law_hand_here", "_law_turn", "_law_machines", "_law_wires_here", "_law_web_here", "_law_due", "_law_writers", "_law_diaries", "_law_record", "_law_links", "_law_places", "_law_hall_here", "_law_wire", "_law_diary", "_law_link"] ["_law_script"] (defScope s_law) := ⟨rfl, rfl, rfl, by decide +kernel, rfl, by decide +kernel, by decide +kernel⟩
theorem sc_Web_init : FnScope ["self", "machines", "wires", "at", "wire"] ["self", "machines", "wires"] (defScope s_Web_init) := ⟨rfl, rfl, rfl, by decide +kernel, rfl, by decide +kernel, by decide +kernel⟩
theorem sc_Web_keep : FnScope ["self", "machines", "wires"] ["self", "machines", "wires"] (defScope s_Web_keep) := ⟨rfl, rfl, rfl, by decide +kernel, rfl, by decide +kernel, by decide +kernel⟩
theorem sc_Web_eq : FnScope ["self", "other"] ["self", "other"] (defScope s_Web_eq) := ⟨rfl, rfl, rfl, by decide +kernel, rfl, by decide +kernel, by decide +kernel⟩
theorem sc_RawWeb_init : FnScope ["self", "machines", "wires"] ["self", "machines", "wires"] (defScope s_RawWeb_init) := ⟨rfl, rfl, rfl, by decide +kernel, rfl, by decide +kernel, by decide +kernel⟩
theorem sc_RawWeb_keep : FnScope ["self", "machines", "wires"] ["self", "machines", "wires"] (defScope s_RawWeb_keep) := ⟨rfl, rfl, rfl, by decide +kernel, rfl, by decide +kernel, by decide +kernel⟩
theorem sc_Record_init : FnScope ["self", "writers", "diaries", "put", "writer", "machine", "diary"] ["self", "writers", "diaries"] (defScope s_Record_init) := ⟨rfl, rfl, rfl, by decide +kernel, rfl, by decide +kernel, by decide +kernel⟩
theorem sc_Record_keep : FnScope ["self", "writers", "diaries", "diary", "at", "put"] ["self", "writers", "diaries"] (defScope s_Record_keep) := ⟨rfl, rfl, rfl, by decide +kernel, rfl, by decide +kernel, by decide +kernel⟩
theorem sc_Record_eq : FnScope ["self", "other"] ["self", "other"] (defScope s_Record_eq) := ⟨rfl, rfl, rfl, by decide +kernel, rfl, by decide +kernel, by decide +kernel⟩
theorem sc_Hall_init : FnScope ["self", "links", "places", "machine", "node", "link"] ["self", "links", "places"] (defScope s_Hall_init) := ⟨rfl, rfl, rfl, by decide +kernel, rfl, by decide +kernel, by decide +kernel⟩
theorem sc_Hall_eq : FnScope ["self", "other"] ["self", "other"] (defScope s_Hall_eq) := ⟨rfl, rfl, rfl, by decide +kernel, rfl, by decide +kernel, by decide +kernel⟩

/-- the def's function object as the written part K has it -/
def fdOf (K : PySem.W.Frag) (p : Str × Option Str) : FuncData := match K.lookup (He.fAd K p) with
  | some ⟨_, _, .func fd, _⟩ => fd
  | _ => default
/-- a def of the top: its body, what its name stands for, how its arguments bind -/
structure Dfn (K : PySem.W.Frag) (mg : Str → Option Value) (x : Str) (st : Stmt) (ps : List Str) : Prop where
  fn : FunD K x x (defArgs st) (defBody st) (defScope st) [] [] (He.ga K x) (fdOf K (x, none))
  g : mg x = some (.ref (He.ga K x))
  b : Binds K (fdOf K (x, none)) ps []
/-- a method -/
structure Mtd (K : PySem.W.Frag) (c x q : Str) (st : Stmt) (ps : List Str) : Prop where
  fn : FunD K x q (defArgs st) (defBody st) (defScope st) [] [] (He.ma K (He.ga K c) x) (fdOf K (c, some x))
  b : Binds K (fdOf K (c, some x)) ps []
  m : Meth K (He.ga K c) x (He.ma K (He.ga K c) x)
/-- an own class -/
structure Clz (K : PySem.W.Frag) (mg : Str → Option Value) (c : Str) (fs : List Str) : Prop where
  g : mg c = some (.ref (He.ga K c))
  cl : Cls K (He.ga K c)
  made : Mk K (He.ga K c) (He.ma K (He.ga K c) "__init__")
  no : ∀ f ∈ fs, NoAttr K (He.ga K c) f
structure Txt (K : PySem.W.Frag) (mg : Str → Option Value) : Prop where
  m_isinstance : mg "isinstance" = none
  m_int : mg "int" = none
  m_bool : mg "bool" = none
  m_tuple : mg "tuple" = none
  m_len : mg "len" = none
  m_all : mg "all" = none
  m_set : mg "set" = none
  m_enumerate : mg "enumerate" = none
  m_sorted : mg "sorted" = none
  m_list : mg "list" = none
  m_dict : mg "dict" = none
  m_range : mg "range" = none
  m_str : mg "str" = none
  m_abs : mg "abs" = none
  m_min : mg "min" = none
  m_max : mg "max" = none
  m_zip : mg "zip" = none
  c_MOST_MACHINES_webs : ∃ t, mg "MOST_MACHINES_webs" = some (.int 7 t)
  c_MOST_MACHINES_records : ∃ t, mg "MOST_MACHINES_records" = some (.int 7 t)
  c_MOST_PUTS : ∃ t, mg "MOST_PUTS" = some (.int 30 t)
  c_MOST_MACHINES_halls : ∃ t, mg "MOST_MACHINES_halls" = some (.int 7 t)
  c_MOST_LINKS : ∃ t, mg "MOST_LINKS" = some (.int 11 t)
  c_MOST_FIGURES : ∃ t, mg "MOST_FIGURES" = some (.int 9 t)
  c_DIGITS : ∃ t, mg "DIGITS" = some (.str "0123456789" t)
  d_is_integer : Dfn K mg "is_integer" s_is_integer ["thing"]
  d_is_within : Dfn K mg "is_within" s_is_within ["thing", "least", "most"]
  d_is_pair : Dfn K mg "is_pair" s_is_pair ["thing"]
  d_is_sized : Dfn K mg "is_sized" s_is_sized ["thing", "least", "most"]
  d_are_unlike : Dfn K mg "are_unlike" s_are_unlike ["thing", "size"]
  d_is_wire_pair : Dfn K mg "is_wire_pair" s_is_wire_pair ["many", "thing"]
  d_raw_web : Dfn K mg "raw_web" s_raw_web ["machines", "wires"]
  d_outs : Dfn K mg "outs" s_outs ["web", "machine"]
  d_reach_of : Dfn K mg "reach_of" s_reach_of ["web", "machine"]
  d_doubled : Dfn K mg "doubled" s_doubled ["pairs"]
  d_is_link : Dfn K mg "is_link" s_is_link ["thing", "nodes"]
  d_are_links : Dfn K mg "are_links" s_are_links ["thing"]
  d_web_of : Dfn K mg "web_of" s_web_of ["links"]
  d_closed : Dfn K mg "closed" s_closed ["lines"]
  d_told : Dfn K mg "told" s_told ["word", "numbers"]
  d_web_text : Dfn K mg "web_text" s_web_text ["web"]
  d_record_text : Dfn K mg "record_text" s_record_text ["record"]
  d_hall_text : Dfn K mg "hall_text" s_hall_text ["hall"]
  d_number_in : Dfn K mg "number_in" s_number_in ["word"]
  d_numbers_in : Dfn K mg "numbers_in" s_numbers_in ["line", "word"]
  d_lines_of : Dfn K mg "lines_of" s_lines_of ["text"]
  d_check_end : Dfn K mg "check_end" s_check_end ["lines", "rest"]
  d_parts_in : Dfn K mg "parts_in" s_parts_in ["text", "first", "later", "sizes"]
  d_read_web : Dfn K mg "read_web" s_read_web ["text"]
  d_read_record : Dfn K mg "read_record" s_read_record ["text"]
  d_read_hall : Dfn K mg "read_hall" s_read_hall ["text"]
  d_law_hand : Dfn K mg "_law_hand" s_law_hand ["_law_script"]
  d_law_draw : Dfn K mg "_law_draw" s_law_draw ["_law_hand_here", "_law_many"]
  d_law_wires : Dfn K mg "_law_wires" s_law_wires ["_law_hand_here", "_law_machines", "_law_share"]
  d_law_web : Dfn K mg "_law_web" s_law_web ["_law_hand_here", "_law_most"]
  d_law_lines : Dfn K mg "_law_lines" s_law_lines ["_law_rows"]
  d_law_is : Dfn K mg "_law_is" s_law_is ["_law_told", "_law_due"]
  d_law_shuffled : Dfn K mg "_law_shuffled" s_law_shuffled ["_law_hand_here", "_law_things"]
  d_law_some_record : Dfn K mg "_law_some_record" s_law_some_record ["_law_hand_here"]
  d_law_hall : Dfn K mg "_law_hall" s_law_hall ["_law_hand_here"]
  d_law : Dfn K mg "law" s_law ["_law_script"]
  t_Web_init : Mtd K "Web" "__init__" "Web.__init__" s_Web_init ["self", "machines", "wires"]
  t_Web_keep : Mtd K "Web" "keep" "Web.keep" s_Web_keep ["self", "machines", "wires"]
  t_Web_eq : Mtd K "Web" "__eq__" "Web.__eq__" s_Web_eq ["self", "other"]
  t_RawWeb_init : Mtd K "RawWeb" "__init__" "RawWeb.__init__" s_RawWeb_init ["self", "machines", "wires"]
  t_RawWeb_keep : Mtd K "RawWeb" "keep" "Web.keep" s_RawWeb_keep ["self", "machines", "wires"]
  t_Record_init : Mtd K "Record" "__init__" "Record.__init__" s_Record_init ["self", "writers", "diaries"]
  t_Record_keep : Mtd K "Record" "keep" "Record.keep" s_Record_keep ["self", "writers", "diaries"]
  t_Record_eq : Mtd K "Record" "__eq__" "Record.__eq__" s_Record_eq ["self", "other"]
  t_Hall_init : Mtd K "Hall" "__init__" "Hall.__init__" s_Hall_init ["self", "links", "places"]
  t_Hall_eq : Mtd K "Hall" "__eq__" "Hall.__eq__" s_Hall_eq ["self", "other"]
  C_Web : Clz K mg "Web" ["machines", "wires"]
  C_RawWeb : Clz K mg "RawWeb" ["machines", "wires"]
  C_Record : Clz K mg "Record" ["writers", "diaries", "places"]
  C_Hall : Clz K mg "Hall" ["links", "places"]
  i_Web : C8.InsC K (He.ga K "Web")
  n_Web : NeC K (He.ga K "Web") (He.ma K (He.ga K "Web") "__eq__")
  i_Record : C8.InsC K (He.ga K "Record")
  n_Record : NeC K (He.ga K "Record") (He.ma K (He.ga K "Record") "__eq__")
  i_Hall : C8.InsC K (He.ga K "Hall")
  n_Hall : NeC K (He.ga K "Hall") (He.ma K (He.ga K "Hall") "__eq__")

section
variable {P : Program} {w : World} {K : PySem.W.Frag} {mg : Str → Option Value} {base : Heap} {x qual : Str} {st : Stmt} {f : Addr} {fd : FuncData}
/-- THE RULE for a def of this text: no exception leaves -/
theorem okF {N ps : List Str} {k : Nat} {sp : Sp} (F : FunD K x qual (defArgs st) (defBody st) (defScope st) [] [] f fd) (S : FnScope N ps (defScope st)) (len : ∀ vs H Q E, sp vs H Q E → vs.length = ps.length)
    (hbody : ∀ (cdv : Value) (A : Around) (outer : List Env) (s : Shared) (H : Hp) (vs : List V) (Q : VK) (E : XK), Room k (A.deeper (envOfC qual (defScope st) s.heap.objs.size f cdv)) → sp vs H Q E →
      ∃ t, PSs (cxOf CX0 P w K mg base N qual (defScope st) f cdv A outer s H E).nox (defBody st) t ∧ t { nx := fun _ H' => Q .non H', rt := Q } (start N vs) H) : FnOk P w K mg base CX0 (k + 1) f fd ps sp :=
  F.ok S len fun cdv A outer s H vs Q E hr hsp => let ⟨t, h, q⟩ := hbody cdv A outer s H vs Q E hr hsp; ⟨t, h.nox, q⟩
end
section
variable {X : Cx} {k : Nat} {x m : Str} {st : Stmt} {ps : List Str} {sp : Sp} {p pos apos : Pos} {e o : Expr} {es : List Expr} {t : TA} {ta : TE}
/-- f(e, ..), f a def of the top -/
theorem pe_d (D : Dfn X.K X.mg x st ps) (G : FnOk X.prog X.w X.K X.mg X.base CX0 k (He.ga X.K x) (fdOf X.K (x, none)) ps sp) (hr : Room k X.A) (ha : PA X (e :: es) t) (hg : Gl X x := by rfl) (hdb : (x == ("__debug__" : Str)) = false := by decide)
    (he : starEach (e :: es) X.env = (false, eval e X.env) :: starEach es X.env := by rfl) (hpl : (backTo pos (starEach es X.env)).any (·.1) = false := by rfl) : PE X (.Call (.Name x p) (e :: es) [] pos) (tCall sp [] E0 t) :=
  pe_call G hr hg D.g D.fn.kp D.b .nil pass0 ha hdb he hpl
/-- C(e, ..) of an own class -/
theorem pe_C {c : Str} {q : Str} {fs : List Str} (Z : Clz X.K X.mg c fs) (D : Mtd X.K c "__init__" q st ps) (G : FnOk X.prog X.w X.K X.mg X.base CX0 k (He.ma X.K (He.ga X.K c) "__init__") (fdOf X.K (c, some "__init__")) ps sp) (hr : Room (k + 1) X.A) (ha : PA X (e :: es) t) (hg : Gl X c := by rfl) (hdb : (c == ("__debug__" : Str)) = false := by decide)
    (he : starEach (e :: es) X.env = (false, eval e X.env) :: starEach es X.env := by rfl) (hpl : (backTo pos (starEach es X.env)).any (·.1) = false := by rfl) : PE X (.Call (.Name c p) (e :: es) [] pos) (tMake (He.ga X.K c) sp [] E0 t) :=
  pe_make Z.made G hr hg Z.g D.b .nil pass0 ha hdb he hpl
end
end GA
/-! GaChecks: is_integer, is_within, is_pair, is_sized, are_unlike, is_wire_pair, is_link. -/
namespace GA
open PySem PySem.Spec PyProof.Rows L2
section
variable {P : Program} {w : World} {K : PySem.W.Frag} {mg : Str → Option Value} {base : Heap}

theorem pe_tyN {X : Cx} {x : Str} {n : String} {pos : Pos} (hm : X.mg x = none) (hv : bootBuiltins x = some (.type n)) (hg : Gl X x := by rfl) (hn : x ≠ "__name__" := by decide) (hdb : (x == ("__debug__" : Str)) = false := by decide) : PE X (.Name x pos) (tC (.ty n)) :=
  pe_bltn hg hm hv (show RelV (.ty n) (.type n) from rfl) hn hdb

theorem bl_true {b : Bool} {Q : VK} {H : Hp} (e : b = true) (k : Q (.bl true) H) : Q (.bl b) H := by rw [e]; exact k
theorem bl_false {b : Bool} {Q : VK} {H : Hp} (e : b = false) (k : Q (.bl false) H) : Q (.bl b) H := by rw [e]; exact k
theorem iteB {b : Bool} {A B : Prop} (e : b = true) (k : A) : if b = true then A else B := by rw [e]; exact iteT k
theorem iteN {b : Bool} {A B : Prop} (e : b = false) (k : B) : if b = true then A else B := by rw [e]; exact iteF k
theorem bt_int : bootBuiltins "int" = some (.type "int") := by decide +kernel
theorem bt_bool : bootBuiltins "bool" = some (.type "bool") := by decide +kernel
theorem bt_tuple : bootBuiltins "tuple" = some (.type "tuple") := by decide +kernel
theorem bt_list : bootBuiltins "list" = some (.type "list") := by decide +kernel
theorem bt_str : bootBuiltins "str" = some (.type "str") := by decide +kernel
theorem bt_set : bootBuiltins "set" = some (.type "set") := by decide +kernel
theorem bt_dict : bootBuiltins "dict" = some (.type "dict") := by decide +kernel
theorem bt_isinstance : bootBuiltins "isinstance" = some (.builtin "isinstance") := by decide +kernel
theorem bt_all : bootBuiltins "all" = some (.builtin "all") := by decide +kernel
theorem bt_sorted : bootBuiltins "sorted" = some (.builtin "sorted") := by decide +kernel
theorem bt_abs : bootBuiltins "abs" = some (.builtin "abs") := by decide +kernel
theorem bt_min : bootBuiltins "min" = some (.builtin "min") := by decide +kernel
theorem bt_max : bootBuiltins "max" = some (.builtin "max") := by decide +kernel

def sp_is_integer : Sp := fun vs H Q _ => ∃ i : Int, vs = [.int i] ∧ Q (.bl true) H
theorem ok_is_integer (T : Txt K mg) : FnOk P w K mg base CX0 1 (He.ga K "is_integer") (fdOf K ("is_integer", none)) ["thing"] sp_is_integer := by
  refine okF T.d_is_integer.fn sc_is_integer (fun vs H Q E h => ?_) (fun cdv A outer s H vs Q E hr h => ?_)
  · obtain ⟨i, rfl, _⟩ := h; rfl
  · obtain ⟨i, rfl, k⟩ := h
    refine ⟨_, pss_one (ps_ret (pe_and
      (pe_callB call_isi (by rfl) T.m_isinstance bt_isinstance (pa_cons (pv 0) (pa_cons (pe_tyN T.m_int bt_int) pa_nil)))
      (pe_one (pe_not (pe_callB call_isi (by rfl) T.m_isinstance bt_isinstance (pa_cons (pv 0) (pa_cons (pe_tyN T.m_bool bt_bool) pa_nil))))))), ?_⟩
    refine ⟨_, rfl, _, _, _, _, true, rfl, .ty _, .base (.int i), kit_ty (by decide +kernel), true, rfl, ?_⟩
    refine iteT ?_
    refine ⟨_, rfl, _, _, _, _, false, rfl, .ty _, .base (.int i), kit_ty (by decide +kernel), false, rfl, ?_⟩
    exact k
def sp_is_within : Sp := fun vs H Q _ => ∃ i l m : Int, vs = [.int i, .int l, .int m] ∧ l ≤ i ∧ i ≤ m ∧ Q (.bl true) H
theorem ok_is_within (T : Txt K mg) : FnOk P w K mg base CX0 2 (He.ga K "is_within") (fdOf K ("is_within", none)) ["thing", "least", "most"] sp_is_within := by
  refine okF T.d_is_within.fn sc_is_within (fun vs H Q E h => ?_) (fun cdv A outer s H vs Q E hr h => ?_)
  · obtain ⟨i, l, m, rfl, _⟩ := h; rfl
  · obtain ⟨i, l, m, rfl, h1, h2, k⟩ := h
    refine ⟨_, pss_one (ps_ret (pe_and (pe_d T.d_is_integer (ok_is_integer T) hr (pa_cons (pv 0) pa_nil)) (pe_one (pe_chain op_le op_le (pv 1) (pv 0) (pv 2))))), ?_⟩
    refine ⟨_, rfl, i, rfl, true, rfl, iteT ?_⟩
    refine ⟨_, rfl, _, rfl, _, _, rfl, rfl, _, rfl, ?_⟩
    refine iteB (decide_eq_true h1) ⟨_, rfl, _, _, rfl, rfl, ?_⟩
    exact bl_true (decide_eq_true h2) k
def sp_is_pair : Sp := fun vs H Q _ => ∃ a x y, vs = [.ref a] ∧ H a = some (.tup [x, y]) ∧ Q (.bl true) H
theorem ok_is_pair (T : Txt K mg) : FnOk P w K mg base CX0 1 (He.ga K "is_pair") (fdOf K ("is_pair", none)) ["thing"] sp_is_pair := by
  refine okF T.d_is_pair.fn sc_is_pair (fun vs H Q E h => ?_) (fun cdv A outer s H vs Q E hr h => ?_)
  · obtain ⟨a, x, y, rfl, _⟩ := h; rfl
  · obtain ⟨a, x, y, rfl, ha, k⟩ := h
    refine ⟨_, pss_one (ps_ret (pe_and
      (pe_callB call_isi (by rfl) T.m_isinstance bt_isinstance (pa_cons (pv 0) (pa_cons (pe_tyN T.m_tuple bt_tuple) pa_nil)))
      (pe_one (pe_cmpR op_eq (pe_callB call_len_seq (by rfl) T.m_len PySem.boot_len (pa_cons (pv 0) pa_nil)) pe_int (nomark _))))), ?_⟩
    refine ⟨_, rfl, _, _, _, _, true, rfl, .ty _, .base (.tup ha), kit_ty (by decide +kernel), true, rfl, iteT ?_⟩
    refine ⟨_, rfl, a, _, rfl, .inr (SqT.of ha), rfl, ?_⟩
    exact bl_true (decide_eq_true rfl) k
def sp_is_sized : Sp := fun vs H Q _ => ∃ a xs, ∃ l m : Int, vs = [.ref a, .int l, .int m] ∧ H a = some (.tup xs) ∧ l ≤ (xs.length : Int) ∧ (xs.length : Int) ≤ m ∧ Q (.bl true) H
theorem ok_is_sized (T : Txt K mg) : FnOk P w K mg base CX0 1 (He.ga K "is_sized") (fdOf K ("is_sized", none)) ["thing", "least", "most"] sp_is_sized := by
  refine okF T.d_is_sized.fn sc_is_sized (fun vs H Q E h => ?_) (fun cdv A outer s H vs Q E hr h => ?_)
  · obtain ⟨a, xs, l, m, rfl, _⟩ := h; rfl
  · obtain ⟨a, xs, l, m, rfl, ha, h1, h2, k⟩ := h
    refine ⟨_, pss_one (ps_ret (pe_and
      (pe_callB call_isi (by rfl) T.m_isinstance bt_isinstance (pa_cons (pv 0) (pa_cons (pe_tyN T.m_tuple bt_tuple) pa_nil)))
      (pe_one (pe_chain op_le op_le (pv 1) (pe_callB call_len_seq (by rfl) T.m_len PySem.boot_len (pa_cons (pv 0) pa_nil)) (pv 2))))), ?_⟩
    refine ⟨_, rfl, _, _, _, _, true, rfl, .ty _, .base (.tup ha), kit_ty (by decide +kernel), true, rfl, iteT ?_⟩
    refine ⟨_, rfl, _, rfl, a, _, rfl, .inr (SqT.of ha), _, _, rfl, rfl, _, rfl, ?_⟩
    refine iteB (decide_eq_true h1) ⟨_, rfl, _, _, rfl, rfl, ?_⟩
    exact bl_true (decide_eq_true h2) k
/-- all the numbers within -/
def sp_are_unlike : Sp := fun vs H Q _ => ∃ v ns, ∃ z : Int, vs = [v, .int z] ∧ TI H v ns ∧ (∀ i ∈ ns, 0 ≤ i ∧ i ≤ z - 1) ∧ ns.Nodup ∧ ns.length ≤ 1000 ∧ ∀ H', Same H H' → Q (.bl true) H'
theorem ok_are_unlike (T : Txt K mg) : FnOk P w K mg base CX0 3 (He.ga K "are_unlike") (fdOf K ("are_unlike", none)) ["thing", "size"] sp_are_unlike := by
  refine okF T.d_are_unlike.fn sc_are_unlike (fun vs H Q E h => ?_) (fun cdv A outer s H vs Q E hr h => ?_)
  · obtain ⟨v, ns, z, rfl, _⟩ := h; rfl
  · obtain ⟨v, ns, z, rfl, ⟨a, rfl, ha⟩, h1, h2, h3, k⟩ := h
    refine ⟨_, pss_cons (ps_if (PW.pt (pw_or (pt_not (pt_val (pe_callB call_isi (by rfl) T.m_isinstance bt_isinstance (pa_cons (pv 0) (pa_cons (pe_tyN T.m_tuple bt_tuple) pa_nil)))))
        (pw_or1 (pt_not (pt_val (pe_callB (cr_all rfl) (by rfl) T.m_all bt_all (pa_cons
          (pe_lc (own := [("number", 2)]) (g := gName 2) rfl sc_are_unlike.nd (pi_tup (pv 0)) (blkOk_by (N := ["thing", "size", "number"]) (sc := defScope s_are_unlike) (by decide +kernel)) (fun _ _ _ _ _ => pg_name (i := 2) sc_are_unlike.nd rfl (Or.inl rfl)) (fun _ _ _ _ _ => pts_nil)
            (fun _ _ _ _ _ => pe_d T.d_is_within (ok_is_within T) hr (pa_cons (pv 2) (pa_cons pe_int (pa_cons (pe_op op_sub (pv 1) pe_int) pa_nil)))))
          pa_nil)))))))
        (pss_one (ps_ret pe_bl)) pss_nil)
      (pss_one (ps_ret (pe_cmpR op_eq (pe_lenSetT rfl (by rfl) T.m_len (by rfl) T.m_set (pv 0)) (pe_callB call_len_seq (by rfl) T.m_len PySem.boot_len (pa_cons (pv 0) pa_nil)) (nomark _)))), ?_⟩
    refine ⟨_, rfl, _, _, _, _, true, rfl, .ty _, .base (.tup ha), kit_ty (by decide +kernel), true, rfl, iteF ?_⟩
    refine ⟨_, rfl, a, rfl, ⟨_, SqT.of ha⟩, fun D hD => ?_⟩
    have hz : (ns.map V.int).length ≤ 100000 := by rw [List.length_map]; omega
    refine lc_map walk_tup (fun y d _ => y = V.bl d) (fun _ => true) hD (fun _ _ _ _ _ h => h) (fun H' r => SqT.of (r _ _ ha)) hz ?_ ?_
    · rintro i x H1 _ hi r ⟨rfl, hx⟩ Qt q
      obtain ⟨j, hj, rfl⟩ : ∃ j, ns[i]? = some j ∧ V.int j = x := by
        rw [List.getElem?_map] at hx
        cases e : ns[i]? with
        | none => rw [e] at hx; cases hx
        | some j => rw [e] at hx; exact ⟨j, rfl, Option.some.inj hx⟩
      obtain ⟨b1, b2⟩ := h1 j (List.mem_of_getElem? hj)
      refine ⟨rfl, ?_⟩
      refine ⟨_, rfl, _, rfl, _, _, rfl, rfl, j, 0, z - 1, rfl, b1, b2, q _ _ (Same.refl _) rfl⟩
    · intro H' ys r e p
      have ey := paired_map p
      subst ey
      refine ⟨D, _, rfl, SqL.of e, _, rfl, ?_⟩
      have all_t : ((List.range (ns.map V.int).length).map fun _ => true).all id = true := by
        rw [List.all_eq_true]; intro b hb; obtain ⟨_, _, rfl⟩ := List.mem_map.mp hb; rfl
      refine iteN (by rw [all_t]; rfl) ?_
      refine ⟨_, rfl, a, ns, rfl, SqT.of (r _ _ ha), h3, h2, ?_⟩
      refine ⟨_, rfl, a, _, rfl, .inr (SqT.of (r _ _ ha)), rfl, ?_⟩
      refine bl_true ?_ (k _ r)
      rw [List.length_map]; exact decide_eq_true rfl
end
end GA
/-! GaWebs: is_wire_pair, Web. -/
namespace GA
open PySem PySem.Spec PyProof.Rows L2
theorem map_int_get {ns : List Int} {i : Nat} {x : V} (h : (ns.map V.int)[i]? = some x) : ∃ j, ns[i]? = some j ∧ V.int j = x := by
  rw [List.getElem?_map] at h
  cases e : ns[i]? with
  | none => rw [e] at h; cases h
  | some j => rw [e] at h; exact ⟨j, rfl, Option.some.inj h⟩
theorem get_map_int {ns : List Int} {i : Nat} {j : Int} (h : ns[i]? = some j) : (ns.map V.int)[i]? = some (.int j) := by
  rw [List.getElem?_map, h]; rfl
theorem all_true {n : Nat} : ((List.range n).map fun _ => true).all id = true := by
  rw [List.all_eq_true]; intro b hb; obtain ⟨_, _, rfl⟩ := List.mem_map.mp hb; rfl
/-- an int that the module's name stands for -/
theorem pe_gi {X : Cx} {x : Str} {i : Int} {pos : Pos} (h : ∃ t, X.mg x = some (.int i t)) (hg : Gl X x := by rfl) (hd : (x == ("__debug__" : Str)) = false := by decide) : PE X (.Name x pos) (tC (.int i)) := by
  obtain ⟨t, hm⟩ := h
  exact pe_glob hg hm (show RelV (.int i) (.int i t) from ⟨t, rfl⟩) hd
/-- a pair of unlike machines out of m -/
def WireOk (m : Int) (l : List Int) : Prop := ∃ y x, l = [y, x] ∧ 0 ≤ y ∧ y ≤ m - 1 ∧ 0 ≤ x ∧ x ≤ m - 1 ∧ y ≠ x
/-- ascending pairs of unlike machines -/
def WiresOk (m : Int) (ls : List (List Int)) : Prop := (∀ l ∈ ls, WireOk m l) ∧ ∀ i l l', ls[i]? = some l → ls[i + 1]? = some l' → HT.lexLt l l' = true
/-- the fields of a web -/
def webF (m wv : V) : List (Str × V) := putF "wires" wv (putF "machines" m [])
def WebAt (C : Addr) (H : Hp) (v : V) (m : Int) (ls : List (List Int)) : Prop := ∃ p dx wv, v = .ref p ∧ H p = some (.ins C dx (webF (.int m) wv)) ∧ TTI H wv ls
theorem WebAt.same {C : Addr} {H H' : Hp} {v : V} {m : Int} {ls : List (List Int)} (h : WebAt C H v m ls) (k : Same H H') : WebAt C H' v m ls :=
  let ⟨p, dx, wv, e, q, t⟩ := h; ⟨p, dx, wv, e, k _ _ q, t.im (same_im k)⟩
theorem webF_m {m wv : V} : (webF m wv).lookup ("machines" : Str) = some m := by
  unfold webF
  rw [lookup_putF, if_neg (by decide +kernel), lookup_putF, if_pos rfl]
theorem webF_w {m wv : V} : (webF m wv).lookup ("wires" : Str) = some wv := by
  unfold webF
  rw [lookup_putF, if_pos rfl]
section
variable {P : Program} {w : World} {K : PySem.W.Frag} {mg : Str → Option Value} {base : Heap}

def sp_is_wire_pair : Sp := fun vs H Q _ => ∃ m v l, vs = [.int m, v] ∧ TI H v l ∧ WireOk m l ∧ ∀ H', Same H H' → Q (.bl true) H'
theorem ok_is_wire_pair (T : Txt K mg) : FnOk P w K mg base CX0 3 (He.ga K "is_wire_pair") (fdOf K ("is_wire_pair", none)) ["many", "thing"] sp_is_wire_pair := by
  refine okF T.d_is_wire_pair.fn sc_is_wire_pair (fun vs H Q E h => ?_) (fun cdv A outer s H vs Q E hr h => ?_)
  · obtain ⟨m, v, l, rfl, _⟩ := h; rfl
  · obtain ⟨m, v, _, rfl, ⟨a, rfl, ha⟩, ⟨y, x, rfl, h1, h2, h3, h4, h5⟩, k⟩ := h
    refine ⟨_, pss_cons (ps_if (PW.pt (pw_or (pt_not (pt_val (pe_d T.d_is_pair (ok_is_pair T) (hr.mono (by decide)) (pa_cons (pv 1) pa_nil))))
        (pw_or1 (pt_not (pt_val (pe_callB (cr_all rfl) (by rfl) T.m_all bt_all (pa_cons
          (pe_lc (own := [("machine", 2)]) (g := gName 2) rfl sc_is_wire_pair.nd (pi_tup (pv 1)) (blkOk_by (N := ["many", "thing", "machine"]) (sc := defScope s_is_wire_pair) (by decide +kernel)) (fun _ _ _ _ _ => pg_name (i := 2) sc_is_wire_pair.nd rfl (Or.inl rfl)) (fun _ _ _ _ _ => pts_nil)
            (fun _ _ _ _ _ => pe_d T.d_is_within (ok_is_within T) hr (pa_cons (pv 2) (pa_cons pe_int (pa_cons (pe_op op_sub (pv 0) pe_int) pa_nil)))))
          pa_nil)))))))
        (pss_one (ps_ret pe_bl)) pss_nil)
      (pss_one (ps_ret (pe_cmpR op_ne (pe_ix ix_tup (pv 1) pe_int (fun _ _ => rfl)) (pe_ix ix_tup (pv 1) pe_int (fun _ _ => rfl)) (nomark _)))), ?_⟩
    refine ⟨_, rfl, a, .int y, .int x, rfl, ha, true, rfl, iteF ?_⟩
    refine ⟨_, rfl, a, rfl, ⟨_, SqT.of ha⟩, fun D hD => ?_⟩
    refine lc_map walk_tup (fun y d _ => y = V.bl d) (fun _ => true) hD (fun _ _ _ _ _ h => h) (fun H' r => SqT.of (r _ _ ha)) (show ([y, x].map V.int).length ≤ 100000 by show 2 ≤ 100000; decide) ?_ ?_
    · rintro i z H1 _ hi r ⟨rfl, hx⟩ Qt q
      obtain ⟨j, hj, rfl⟩ := map_int_get hx
      have b : 0 ≤ j ∧ j ≤ m - 1 := by
        have e := List.mem_of_getElem? hj
        simp only [List.mem_cons, List.not_mem_nil, or_false] at e
        rcases e with rfl | rfl
        · exact ⟨h1, h2⟩
        · exact ⟨h3, h4⟩
      exact ⟨rfl, _, rfl, _, rfl, _, _, rfl, rfl, j, 0, m - 1, rfl, b.1, b.2, q _ _ (Same.refl _) rfl⟩
    · intro H' ys r e p
      have ey := paired_map p
      subst ey
      refine ⟨D, _, rfl, SqL.of e, _, rfl, iteN (by rw [all_true]; rfl) ?_⟩
      have ha' := SqT.of (K := K) (r _ _ ha)
      refine ⟨_, rfl, a, _, 0, .int y, rfl, rfl, ha', rfl, _, rfl, a, _, 1, .int x, rfl, rfl, ha', rfl, rfl, ?_⟩
      refine bl_true ?_ (k _ r)
      rw [decide_eq_false (fun z => h5 (V.int.inj z))]; rfl
def sp_keep (C : Addr) : Sp := fun vs H Q _ => ∃ p dx m wv, vs = [.ref p, m, wv] ∧ H p = some (.ins C dx []) ∧ Q .non (upd H p (.ins C dx (webF m wv)))
theorem ok_keep {c : Str} {fs : List Str} (Z : Clz K mg c fs) (hm : ("machines" : Str) ∈ fs) (hw : ("wires" : Str) ∈ fs) (D : Mtd K c "keep" "Web.keep" s_Web_keep ["self", "machines", "wires"]) :
    FnOk P w K mg base CX0 1 (He.ma K (He.ga K c) "keep") (fdOf K (c, some "keep")) ["self", "machines", "wires"] (sp_keep (He.ga K c)) := by
  refine okF D.fn sc_Web_keep (fun vs H Q E h => ?_) (fun cdv A outer s H vs Q E hr h => ?_)
  · obtain ⟨p, dx, m, wv, rfl, _⟩ := h; rfl
  · obtain ⟨p, dx, m, wv, rfl, hp, k⟩ := h
    refine ⟨_, pss_cons (ps_fld (pv 0) (pv 1) rfl) (pss_one (ps_fld (pv 0) (pv 2) rfl)), ?_⟩
    refine ⟨_, rfl, _, rfl, p, _, dx, [], rfl, hp, Z.cl, Z.no _ hm, (by show 0 < 1000; decide), ?_⟩
    refine ⟨_, rfl, _, rfl, p, _, dx, _, rfl, upd_same, Z.cl, Z.no _ hw, (by show 1 < 1000; decide), ?_⟩
    show Q .non (upd (upd H p _) p _)
    rw [upd_upd]
    exact k
def sp_webI (C : Addr) : Sp := fun vs H Q _ => ∃ p dx, ∃ m : Int, ∃ wv ls, vs = [.ref p, .int m, wv] ∧ H p = some (.ins C dx []) ∧ 1 ≤ m ∧ m ≤ 7 ∧ TTI H wv ls ∧ WiresOk m ls ∧ ls.length ≤ 1000 ∧ ∀ H', Keep p H H' → H' p = some (.ins C dx (webF (.int m) wv)) → Q .non H'
theorem ok_webI (T : Txt K mg) : FnOk P w K mg base CX0 4 (He.ma K (He.ga K "Web") "__init__") (fdOf K ("Web", some "__init__")) ["self", "machines", "wires"] (sp_webI (He.ga K "Web")) := by
  refine okF T.t_Web_init.fn sc_Web_init (fun vs H Q E h => ?_) (fun cdv A outer s H vs Q E hr h => ?_)
  · obtain ⟨p, dx, m, wv, ls, rfl, _⟩ := h; rfl
  · obtain ⟨p, dx, m, wv, ls, rfl, hp, m1, m7, ⟨a, xs, rfl, ha, hx⟩, ⟨ok1, ok2⟩, hz, k⟩ := h
    refine ⟨_, pss_cons (ps_if (pt_not (pt_val (pe_d T.d_is_within (ok_is_within T) (hr.mono (by decide)) (pa_cons (pv 1) (pa_cons pe_int (pa_cons (pe_gi T.c_MOST_MACHINES_webs) pa_nil)))))) (pss_one ps_never) pss_nil)
      (pss_cons (ps_if (pt_not (pt_val (pe_callB call_isi (by rfl) T.m_isinstance bt_isinstance (pa_cons (pv 2) (pa_cons (pe_tyN T.m_tuple bt_tuple) pa_nil))))) (pss_one ps_never) pss_nil)
      (pss_cons (ps_for PassesOwn.never rfl (pi_enumT (by rfl) T.m_enumerate (pa_cons (pv 2) pa_nil)) (pg_tup rfl (pgs_cons (pg_name (i := 3) sc_Web_init.nd rfl (Or.inl rfl)) (pgs_cons (pg_name (i := 4) sc_Web_init.nd rfl (Or.inl rfl)) pgs_nil)))
        (pss_one (ps_if (PW.pt (pw_or (pt_not (pt_val (pe_d T.d_is_wire_pair (ok_is_wire_pair T) hr (pa_cons (pv 1) (pa_cons (pv 4) pa_nil)))))
          (pw_or1 (PW.pt (pw_and (pt_cmpR op_gt (pv 3) pe_int (nomark _)) (pw_and1 (pt_not (pt_cmpR (op_ltT hr.units0) (pe_ix ix_tup (pv 2) (pe_op op_sub (pv 3) pe_int) (fun _ _ => rfl)) (pv 4) (nomark _)))))))))
          (pss_one ps_never) pss_nil)))
      (pss_one (ps_expr (pe_meth (pv 0) T.C_Web.cl T.t_Web_keep.m (ok_keep T.C_Web (by decide +kernel) (by decide +kernel) T.t_Web_keep) (hr.mono (by decide)) T.t_Web_keep.b .nil pass0 (pa_cons (pv 1) (pa_cons (pv 2) pa_nil))))))), ?_⟩
    refine ⟨_, rfl, m, 1, 7, rfl, m1, m7, true, rfl, iteF ?_⟩
    refine ⟨_, rfl, _, _, _, _, true, rfl, .ty _, .base (.tup ha), kit_ty (by decide +kernel), true, rfl, iteF ?_⟩
    refine ⟨_, rfl, a, xs, rfl, SqT.of ha, for_it walk_enumT (fun i σ H' => ∃ y3 y4, σ = [some (.ref p), some (.int m), some (.ref a), y3, y4] ∧ Same H H') ⟨none, none, rfl, Same.refl _⟩ (fun i σ H' _ q => let ⟨_, _, _, r⟩ := q; SqT.of (r _ _ ha)) ?_ ?_⟩
    · rintro i _ _ H1 _ hi ⟨y3, y4, rfl, r⟩ ⟨Tp, x1, x2, rfl, nT, rfl, e1, e2⟩
      cases Option.some.inj e1
      have r2 : Same H1 (upd H1 Tp (.tup [.int (i : Nat), x2])) := same_new nT
      obtain ⟨l, hl, tl⟩ := paired_get hx e2
      have tl2 : TI (upd H1 Tp (.tup [.int (i : Nat), x2])) x2 l := (tl.im (same_im r)).im (same_im r2)
      refine ⟨Tp, _, rfl, SqT.of upd_same, rfl, _, _, rfl, _, _, rfl, rfl, ?_⟩
      refine ⟨_, rfl, _, rfl, m, x2, l, rfl, tl2, ok1 l (List.mem_of_getElem? hl), fun H2 r3 => ⟨true, rfl, iteF ?_⟩⟩
      refine ⟨_, rfl, _, _, rfl, rfl, _, rfl, ?_⟩
      have go : ∃ y3 y4, ([some (.ref p), some (.int m), some (.ref a), some (.int (i : Nat)), some x2] : L2.St) = [some (.ref p), some (.int m), some (.ref a), y3, y4] ∧ Same H H2 := ⟨_, _, rfl, (r.trans r2).trans r3⟩
      cases i with
      | zero => exact iteN (decide_eq_false (by omega)) (iteF go)
      | succ j =>
        refine iteB (decide_eq_true (by omega)) ?_
        have hj : j < xs.length := by omega
        obtain ⟨l0, hl0, tl0⟩ := paired_get hx (List.getElem?_eq_getElem hj)
        have s2 : Same H H2 := (r.trans r2).trans r3
        obtain ⟨b0, e0, q0⟩ := tl0
        obtain ⟨b1, e1', q1⟩ := tl
        subst e1'
        refine ⟨_, rfl, _, rfl, _, _, rfl, rfl, a, xs, ((j + 1 : Nat) : Int) - 1, _, rfl, rfl, SqT.of (s2 _ _ ha), at_of (by omega) (List.getElem?_eq_getElem hj), ?_⟩
        rw [e0]
        refine ⟨_, rfl, b0, b1, l0, l, rfl, rfl, SqT.of (s2 _ _ q0), SqT.of (s2 _ _ q1), _, rfl, ?_⟩
        rw [ok2 j l0 l hl0 hl]
        exact iteF go
    · rintro _ H1 ⟨y3, y4, rfl, r⟩
      refine ⟨_, rfl, p, dx, [], rfl, r _ _ hp, rfl, _, rfl, _, rfl, p, dx, _, _, rfl, r _ _ hp, ?_⟩
      exact k _ ((same_keep r).put) upd_same
end
end GA
/-! GaWebs2: Web.__eq__, RawWeb, raw_web, outs, doubled, web_of. -/
namespace GA
open PySem PySem.Spec PyProof.Rows L2
/-! ### data as one -/
def dL (l : List Int) : PyData := .tuple (l.map .int)
def dLL (ls : List (List Int)) : PyData := .tuple (ls.map dL)
theorem dp_ints {K : PySem.W.Frag} {H : Hp} : ∀ l : List Int, DpAll K H (l.map V.int) (l.map .int)
  | [] => .nil
  | i :: r => .cons (.int i) (dp_ints r)
theorem dp_TI {K : PySem.W.Frag} {H : Hp} {v : V} {l : List Int} (h : TI H v l) : Dp K H v (dL l) := by
  obtain ⟨a, rfl, q⟩ := h
  exact .tup (SqT.of q) (dp_ints l)
theorem dp_all {K : PySem.W.Frag} {H : Hp} : ∀ {xs : List V} {ls : List (List Int)}, Paired (TI H) xs ls → DpAll K H xs (ls.map dL)
  | _, _, .nil => .nil
  | _, _, .cons h t => .cons (dp_TI h) (dp_all t)
theorem dp_TTI {K : PySem.W.Frag} {H : Hp} {v : V} {ls : List (List Int)} (h : TTI H v ls) : Dp K H v (dLL ls) := by
  obtain ⟨a, xs, rfl, q, p⟩ := h
  exact .tup (SqT.of q) (dp_all p)
theorem depth_ints : ∀ l : List Int, PyData.depthAll (l.map .int) = 0
  | [] => rfl
  | i :: r => by rw [List.map_cons, PyData.depthAll, depth_ints r]; rfl
theorem depth_dL (l : List Int) : (dL l).depth = 1 := by unfold dL; rw [PyData.depth, depth_ints]
theorem depth_all : ∀ ls : List (List Int), PyData.depthAll (ls.map dL) ≤ 1
  | [] => Nat.zero_le _
  | l :: r => by rw [List.map_cons, PyData.depthAll, depth_dL]; exact Nat.max_le.mpr ⟨Nat.le_refl _, depth_all r⟩
theorem lay_ints : ∀ l : List Int, PyData.canLayAll0 (l.map .int) = true
  | [] => by simp only [List.map_nil, PyData.canLayAll0]
  | i :: r => by rw [List.map_cons, PyData.canLayAll0, lay_ints r, PyData.canLay0]; rfl
theorem lay_dL (l : List Int) : (dL l).canLay0 = true := by unfold dL; rw [PyData.canLay0]; exact lay_ints l
theorem lay_all : ∀ ls : List (List Int), PyData.canLayAll0 (ls.map dL) = true
  | [] => by simp only [List.map_nil, PyData.canLayAll0]
  | l :: r => by rw [List.map_cons, PyData.canLayAll0, lay_all r, lay_dL]; rfl
theorem shaped_dL (l : List Int) : SeqAt.shaped (dL l) = true := by
  unfold SeqAt.shaped; rw [lay_dL, depth_dL]; rfl
theorem shaped_dLL (ls : List (List Int)) : SeqAt.shaped (dLL ls) = true := by
  unfold SeqAt.shaped
  have h1 : (dLL ls).canLay0 = true := by unfold dLL; rw [PyData.canLay0]; exact lay_all ls
  have h2 : (dLL ls).depth ≤ 64 := by unfold dLL; rw [PyData.depth]; have := depth_all ls; omega
  rw [h1, decide_eq_true h2]; rfl
/-- the class's name -/
theorem pe_gcl {X : Cx} {x : Str} {a : Addr} {pos : Pos} (hm : X.mg x = some (.ref a)) (hg : Gl X x := by rfl) (hd : (x == ("__debug__" : Str)) = false := by decide) : PE X (.Name x pos) (tC (.ref a)) :=
  pe_glob hg hm (show RelV (.ref a) (.ref a) from rfl) hd
theorem bl_eqv {d : PyData} {Q : VK} {H : Hp} (h : SeqAt.shaped d = true) (k : Q (.bl true) H) : Q (.bl (PyData.eqv d d)) H := bl_true (SeqAt.eqv_refl d (SeqAt.canLay_of_shaped h)) k
section
variable {P : Program} {w : World} {K : PySem.W.Frag} {mg : Str → Option Value} {base : Heap}

/-- two webs with the same parts -/
def WebsEq (C : Addr) (a b : Addr) (H : Hp) : Prop := ∃ m ls, WebAt C H (.ref a) m ls ∧ WebAt C H (.ref b) m ls
theorem ok_webEq (T : Txt K mg) : FnOk P w K mg base CX0 1 (He.ma K (He.ga K "Web") "__eq__") (fdOf K ("Web", some "__eq__")) ["self", "other"] (spEqB (WebsEq (He.ga K "Web"))) := by
  refine okF T.t_Web_eq.fn sc_Web_eq (fun vs H Q E h => ?_) (fun cdv A outer s H vs Q E hr h => ?_)
  · obtain ⟨a, b, rfl, _⟩ := h; rfl
  · obtain ⟨a, b, rfl, ⟨m, ls, ⟨_, dx, wv, e1, q1, t1⟩, ⟨_, dy, wu, e2, q2, t2⟩⟩, k⟩ := h
    cases e1
    cases e2
    refine ⟨_, pss_one (ps_ret (pe_and (pe_callB (C8.call_isC T.i_Web) (by rfl) T.m_isinstance bt_isinstance (pa_cons (pv 1) (pa_cons (pe_gcl T.C_Web.g) pa_nil)))
      (pe_and (pe_cmpR op_eq (pe_fld (pv 0) rfl) (pe_fld (pv 1) rfl) (nomark _)) (pe_one (pe_cmpR (op_eqD hr.units) (pe_fld (pv 0) rfl) (pe_fld (pv 1) rfl) (nomark _)))))), ?_⟩
    refine ⟨_, rfl, b, dy, _, rfl, q2, true, rfl, iteT ?_⟩
    have nm := T.C_Web.no "machines" (by decide +kernel)
    have nw := T.C_Web.no "wires" (by decide +kernel)
    refine ⟨_, rfl, a, _, dx, _, _, rfl, q1, T.C_Web.cl, nm, webF_m, _, rfl, b, _, dy, _, _, rfl, q2, T.C_Web.cl, nm, webF_m, rfl, _, rfl, iteB (decide_eq_true rfl) ?_⟩
    refine ⟨_, rfl, a, _, dx, _, _, rfl, q1, T.C_Web.cl, nw, webF_w, _, rfl, b, _, dy, _, _, rfl, q2, T.C_Web.cl, nw, webF_w, dLL ls, dLL ls, dp_TTI t1, dp_TTI t2, shaped_dLL ls, shaped_dLL ls, ?_⟩
    exact bl_eqv (shaped_dLL ls) (k _ (Same.refl _))
/-- RawWeb's __init__ -/
def sp_rawI (C : Addr) : Sp := fun vs H Q _ => ∃ p dx m wv, vs = [.ref p, m, wv] ∧ H p = some (.ins C dx []) ∧ Q .non (upd H p (.ins C dx (webF m wv)))
theorem ok_rawI (T : Txt K mg) : FnOk P w K mg base CX0 2 (He.ma K (He.ga K "RawWeb") "__init__") (fdOf K ("RawWeb", some "__init__")) ["self", "machines", "wires"] (sp_rawI (He.ga K "RawWeb")) := by
  refine okF T.t_RawWeb_init.fn sc_RawWeb_init (fun vs H Q E h => ?_) (fun cdv A outer s H vs Q E hr h => ?_)
  · obtain ⟨p, dx, m, wv, rfl, _⟩ := h; rfl
  · obtain ⟨p, dx, m, wv, rfl, hp, k⟩ := h
    refine ⟨_, pss_one (ps_expr (pe_meth (pv 0) T.C_RawWeb.cl T.t_RawWeb_keep.m (ok_keep T.C_RawWeb (by decide +kernel) (by decide +kernel) T.t_RawWeb_keep) hr T.t_RawWeb_keep.b .nil pass0 (pa_cons (pv 1) (pa_cons (pv 2) pa_nil)))), ?_⟩
    exact ⟨_, rfl, p, dx, [], rfl, hp, rfl, _, rfl, _, rfl, p, dx, _, _, rfl, hp, k⟩
theorem ks_of {H : Hp} : ∀ {xs : List V} {ls : List (List Int)}, Paired (TI H) xs ls → ∃ ks : List (Addr × List Int), xs = ks.map (fun p => V.ref p.1) ∧ ls = ks.map (·.2) ∧ ∀ p ∈ ks, H p.1 = some (.tup (p.2.map V.int))
  | _, _, .nil => ⟨[], rfl, rfl, fun _ h => nomatch h⟩
  | _, _, .cons (b := l) ⟨a, e, q⟩ t => by
    obtain ⟨ks, h1, h2, h3⟩ := ks_of t
    refine ⟨(a, l) :: ks, by rw [e, h1]; rfl, by rw [h2]; rfl, fun p hp => ?_⟩
    rcases List.mem_cons.mp hp with rfl | hp
    · exact q
    · exact h3 p hp
theorem paired_ks {H : Hp} : ∀ {ks : List (Addr × List Int)}, (∀ p ∈ ks, H p.1 = some (.tup (p.2.map V.int))) → Paired (TI H) (ks.map fun p => V.ref p.1) (ks.map (·.2))
  | [], _ => .nil
  | p :: ks, h => .cons ⟨p.1, rfl, h p (List.mem_cons_self ..)⟩ (paired_ks fun q hq => h q (List.mem_cons_of_mem _ hq))
/-- the web of some pairs: the same ones, each once -/
def sp_raw_web (C : Addr) : Sp := fun vs H Q _ => ∃ m, ∃ l xs ls, ∃ B : Int, vs = [.int m, .ref l] ∧ H l = some (.lst xs) ∧ Paired (TI H) xs ls ∧ ls.length < 64 ∧ (∀ q ∈ ls, q.length = 2 ∧ TS.Bd B q) ∧
  ∀ H' v us, Same H H' → us.Nodup → (∀ q, q ∈ us ↔ q ∈ ls) → WebAt C H' v m us → Q v H'
theorem ok_raw_web (T : Txt K mg) : FnOk P w K mg base CX0 4 (He.ga K "raw_web") (fdOf K ("raw_web", none)) ["machines", "wires"] (sp_raw_web (He.ga K "RawWeb")) := by
  refine okF T.d_raw_web.fn sc_raw_web (fun vs H Q E h => ?_) (fun cdv A outer s H vs Q E hr h => ?_)
  · obtain ⟨m, l, xs, ls, B, rfl, _⟩ := h; rfl
  · obtain ⟨m, l, xs, ls, B, rfl, hl, hp, h64, hB, k⟩ := h
    refine ⟨_, pss_one (ps_ret (pe_C T.C_RawWeb T.t_RawWeb_init (ok_rawI T) hr (pa_cons (pv 0) (pa_cons
      (pe_callTy call_tuple_of (by rfl) T.m_tuple bt_tuple (pa_cons (pe_callB (cr_sortedT rfl) (by rfl) T.m_sorted bt_sorted (pa_cons
        (pe_callTy (cr_setOfT rfl hr.units) (by rfl) T.m_set bt_set (pa_cons (pv 1) pa_nil)) pa_nil)) pa_nil)) pa_nil)))), ?_⟩
    obtain ⟨ks, rfl, rfl, hk⟩ := ks_of hp
    have hkl : ks.length < 64 := by rw [List.length_map] at h64; exact h64
    refine ⟨_, rfl, _, rfl, l, ks, rfl, SqL.of hl, fun p hp => SqT.of (hk p hp), hkl, fun a L na hL1 hL2 => ?_⟩
    have s1 : Same H (upd H a (SetTO P w a L)) := same_new na
    refine ⟨a, L, 2, B, rfl, upd_same, fun p hp => SqT.of (s1 _ _ (hk p (hL1 p hp))), by decide, fun p hp => hB _ (List.mem_map_of_mem (hL1 p hp)), fun L' b hperm hnd _ _ nb => ?_⟩
    have s2 : Same H (upd (upd H a (SetTO P w a L)) b (.lst (L'.map fun q => V.ref q.1))) := s1.trans (same_new nb)
    refine ⟨b, _, rfl, .inl ⟨SqL.of upd_same, fun c nc => ?_⟩⟩
    have s3 := s2.trans (same_new (o := .tup (L'.map fun q => V.ref q.1)) nc)
    intro x dx nx ndx nex
    refine ⟨x, dx, .int m, .ref c, rfl, upd_same, rfl, ?_⟩
    have s4 : Same (upd (upd (upd H a (SetTO P w a L)) b (.lst (L'.map fun q => V.ref q.1))) c (.tup (L'.map fun q => V.ref q.1))) (upd (upd (upd (upd (upd (upd H a (SetTO P w a L)) b (.lst (L'.map fun q => V.ref q.1))) c (.tup (L'.map fun q => V.ref q.1))) dx (.own x)) x (.ins (He.ga K "RawWeb") dx [])) x (.ins (He.ga K "RawWeb") dx (webF (.int m) (.ref c)))) :=
      same_mut (same_mut (same_new ndx) nx) nx
    refine k _ _ (L'.map (·.2)) (s3.trans s4) hnd (fun q => ?_) ⟨x, dx, .ref c, rfl, upd_same, c, _, rfl, s4 _ _ upd_same, paired_ks fun p hp => ?_⟩
    · constructor
      · intro hq
        obtain ⟨p, hp, rfl⟩ := List.mem_map.mp hq
        exact List.mem_map_of_mem (hL1 p (hperm.mem_iff.mp hp))
      · intro hq
        obtain ⟨p, hp, rfl⟩ := List.mem_map.mp hq
        obtain ⟨p2, hp2, e2⟩ := List.mem_map.mp (hL2 p hp)
        exact List.mem_map.mpr ⟨p2, hperm.mem_iff.mpr hp2, e2⟩
    · exact s4 _ _ (s3 _ _ (hk p (hL1 p (hperm.mem_iff.mp hp))))
end
end GA
/-! GaReach: outs, reach_of, doubled, web_of. -/
namespace GA
open PySem PySem.Spec PyProof.Rows L2
/-! ### plain -/
/-- whither wires lead from s -/
def outsL (ls : List (List Int)) (s : Int) : List Int := (ls.filter fun l => decide (l.getD 0 0 = s)).map fun l => l.getD 1 0
theorem nodup_le : ∀ (m : Nat) (ns : List Int), ns.Nodup → (∀ n ∈ ns, 0 ≤ n ∧ n < (m : Int)) → ns.length ≤ m
  | 0, ns, _, h => by
    cases ns with
    | nil => exact Nat.le_refl _
    | cons n r => have := h n (List.mem_cons_self ..); omega
  | m + 1, ns, nd, h => by
    have nd2 : (ns.erase (m : Int)).Nodup := nd.erase _
    have ih := nodup_le m (ns.erase (m : Int)) nd2 fun n hn => by
      have h1 := (List.Nodup.mem_erase_iff nd).mp hn
      have h2 := h n h1.2
      have h3 := h1.1
      omega
    by_cases hm : (m : Int) ∈ ns
    · have := List.length_erase_of_mem hm
      have : 0 < ns.length := List.length_pos_of_mem hm
      omega
    · rw [List.erase_of_not_mem hm] at ih
      omega
/-- what reach_of's list holds: ns, done of it gone through -/
structure Rch (ls : List (List Int)) (m : Nat) (s : Int) (ns : List Int) (d : Nat) : Prop where
  nd : ns.Nodup
  hd : s ∈ ns
  rg : ∀ n ∈ ns, 0 ≤ n ∧ n < (m : Int)
  le : d ≤ ns.length
  cl : ∀ k n, k < d → ns[k]? = some n → ∀ l ∈ ls, l.getD 0 0 = n → l.getD 1 0 ∈ ns
theorem Rch.turn {ls : List (List Int)} {m : Nat} {s : Int} {ns : List Int} {d : Nat} {n : Int} (R : Rch ls m s ns d) (hn : ns[d]? = some n) (hnd : ls.Nodup) (h2 : ∀ l ∈ ls, l.length = 2) (hrg : ∀ l ∈ ls, 0 ≤ l.getD 1 0 ∧ l.getD 1 0 < (m : Int)) :
    Rch ls m s (ns ++ (outsL ls n).filter fun x => !decide (x ∈ ns)) (d + 1) where
  nd := by
    have ho : (outsL ls n).Nodup := by
      unfold outsL
      have h1 : (ls.filter fun l => decide (l.getD 0 0 = n)).Nodup := hnd.filter _
      unfold List.Nodup
      rw [List.pairwise_map]
      refine List.Pairwise.imp_of_mem ?_ h1
      intro a b ha hb hab e
      obtain ⟨a1, a2⟩ := List.mem_filter.mp ha
      obtain ⟨b1, b2⟩ := List.mem_filter.mp hb
      have la := h2 a a1
      have lb := h2 b b1
      match a, b, la, lb with
      | [x, y], [x', y'], _, _ =>
        have e1 : x = n := of_decide_eq_true a2
        have e2 : x' = n := of_decide_eq_true b2
        have e3 : y = y' := e
        exact hab (by rw [e1, e2, e3])
    rw [List.nodup_append]
    refine ⟨R.nd, ho.filter _, ?_⟩
    intro a ha b hb e
    subst e
    have := (List.mem_filter.mp hb).2
    simp [ha] at this
  hd := List.mem_append_left _ R.hd
  rg := fun x hx => by
    rcases List.mem_append.mp hx with hx | hx
    · exact R.rg x hx
    · have h1 := (List.mem_filter.mp hx).1
      unfold outsL at h1
      obtain ⟨l, hl, rfl⟩ := List.mem_map.mp h1
      exact hrg l (List.mem_filter.mp hl).1
  le := by
    have := (List.getElem?_eq_some_iff.mp hn).1
    rw [List.length_append]; omega
  cl := fun k x hk hx l hl e => by
    have hd : d < ns.length := (List.getElem?_eq_some_iff.mp hn).1
    rw [List.getElem?_append_left (by omega)] at hx
    by_cases hkd : k < d
    · exact List.mem_append_left _ (R.cl k x hkd hx l hl e)
    · have : k = d := by omega
      subst this
      have : x = n := Option.some.inj (hx.symm.trans hn)
      subst this
      by_cases hin : l.getD 1 0 ∈ ns
      · exact List.mem_append_left _ hin
      · refine List.mem_append_right _ (List.mem_filter.mpr ⟨?_, by simp only [hin, decide_false, Bool.not_false]⟩)
        unfold outsL
        exact List.mem_map_of_mem (f := fun l : List Int => l.getD 1 0) (List.mem_filter.mpr ⟨hl, decide_eq_true e⟩)
theorem Rch.len {ls : List (List Int)} {m : Nat} {s : Int} {ns : List Int} {d : Nat} (R : Rch ls m s ns d) : ns.length ≤ m := nodup_le m ns R.nd R.rg
/-- closed: whatever a wire leads to from it is in it -/
structure Closed (ls : List (List Int)) (m : Nat) (s : Int) (ns : List Int) : Prop where
  nd : ns.Nodup
  hd : s ∈ ns
  rg : ∀ n ∈ ns, 0 ≤ n ∧ n < (m : Int)
  cl : ∀ l ∈ ls, l.getD 0 0 ∈ ns → l.getD 1 0 ∈ ns
theorem Rch.closed {ls : List (List Int)} {m : Nat} {s : Int} {ns : List Int} {d : Nat} (R : Rch ls m s ns d) (h : ns.length ≤ d) : Closed ls m s ns :=
  ⟨R.nd, R.hd, R.rg, fun l hl hm => by
    obtain ⟨k, hk, e⟩ := List.mem_iff_getElem.mp hm
    exact R.cl k _ (by omega) (List.getElem?_eq_getElem hk) l hl e.symm⟩
theorem Closed.perm {ls : List (List Int)} {m : Nat} {s : Int} {ns us : List Int} (R : Closed ls m s ns) (p : us.Perm ns) : Closed ls m s us :=
  ⟨p.nodup_iff.mpr R.nd, p.mem_iff.mpr R.hd, fun n hn => R.rg n (p.mem_iff.mp hn), fun l hl h => p.mem_iff.mpr (R.cl l hl (p.mem_iff.mp h))⟩
theorem filterL {α : Type} (p : α → Bool) (xs : List α) (i : Nat) (x : α) (h : xs[i]? = some x) : (xs.take (i + 1)).filter p = if p x = true then (xs.take i).filter p ++ [x] else (xs.take i).filter p := by
  rw [List.take_add_one, h, List.filter_append]
  by_cases hp : p x = true
  · rw [if_pos hp]; simp [hp]
  · rw [if_neg hp]; simp [hp]
/-- in of ints -/
theorem inV_int (n : Int) : ∀ ns : List Int, inV (.int n) (ns.map V.int) = decide (n ∈ ns)
  | [] => rfl
  | m :: r => by
    show (eqV (.int m) (.int n) || inV (.int n) (r.map V.int)) = _
    rw [inV_int n r]
    have e : eqV (.int m) (.int n) = decide (m = n) := by first | rfl | simp [eqV]
    rw [e]
    by_cases h : m = n
    · subst h; simp
    · have h' : ¬ n = m := fun z => h z.symm
      simp [h, h']
theorem flat_ints (ns : List Int) : (ns.map V.int).all flatV = true := by
  rw [List.all_eq_true]; intro x hx; obtain ⟨_, _, rfl⟩ := List.mem_map.mp hx; rfl
section
variable {P : Program} {w : World} {K : PySem.W.Frag} {mg : Str → Option Value} {base : Heap}

def sp_outs (C : Addr) : Sp := fun vs H Q _ => ∃ v m ls, ∃ s : Int, vs = [v, .int s] ∧ WebAt C H v m ls ∧ (∀ l ∈ ls, l.length = 2) ∧ ls.length ≤ 1000 ∧ ∀ H' p, Same H H' → H' p = some (.lst ((outsL ls s).map V.int)) → Q (.ref p) H'
theorem ok_outs (T : Txt K mg) : FnOk P w K mg base CX0 1 (He.ga K "outs") (fdOf K ("outs", none)) ["web", "machine"] (sp_outs (He.ga K "RawWeb")) := by
  refine okF T.d_outs.fn sc_outs (fun vs H Q E h => ?_) (fun cdv A outer s H vs Q E hr h => ?_)
  · obtain ⟨v, m, ls, z, rfl, _⟩ := h; rfl
  · obtain ⟨v, m, ls, z, rfl, ⟨p, dx, wv, rfl, hp, ⟨a, xs, rfl, ha, hx⟩⟩, h2, hz, k⟩ := h
    refine ⟨_, pss_one (ps_ret (pe_lc (own := [("y", 2), ("x", 3)]) (g := gTup K 2 (gCons (gName 2) (gCons (gName 3) gNil))) rfl sc_outs.nd (pi_tup (pe_fld (pv 0) rfl)) (blkOk_by (N := ["web", "machine", "y", "x"]) (sc := defScope s_outs) (by decide +kernel))
      (fun _ _ _ _ _ => pg_tup rfl (pgs_cons (pg_name (i := 2) sc_outs.nd rfl (Or.inl rfl)) (pgs_cons (pg_name (i := 3) sc_outs.nd rfl (Or.inl rfl)) pgs_nil)))
      (fun _ _ _ _ _ => pts_one (pt_cmpR op_eq (pv 2) (pv 1) (nomark _))) (fun _ _ _ _ _ => pv 3))), ?_⟩
    refine ⟨_, rfl, p, _, dx, _, _, rfl, hp, T.C_RawWeb.cl, T.C_RawWeb.no "wires" (by decide +kernel), webF_w, a, rfl, ⟨_, SqT.of ha⟩, fun D hD => ?_⟩
    have hxl : xs.length = ls.length := hx.length
    refine lc_same walk_tup (fun y (d : Int) _ => y = V.int d) (fun i ds => ds = outsL (ls.take i) z) hD (fun _ _ _ _ _ h => h) rfl (fun H' r => SqT.of (r _ _ ha)) (by omega) ?_ ?_
    · rintro i x H1 _ ds hi r hA ⟨rfl, e⟩ Qt Qf q1 q2
      obtain ⟨l, hl, b, rfl, hb⟩ := paired_get hx e
      have hl2 := h2 l (List.mem_of_getElem? hl)
      match l, hl2 with
      | [y, x2], _ =>
      refine ⟨b, _, rfl, SqT.of (r _ _ hb), rfl, .int y, [.int x2], rfl, .int x2, [], rfl, rfl, rfl, ?_⟩
      refine ⟨_, rfl, _, rfl, rfl, _, rfl, ?_⟩
      have hf := filterL (fun l : List Int => decide (l.getD 0 0 = z)) ls i [y, x2] hl
      by_cases hyz : y = z
      · refine iteB (decide_eq_true (by rw [hyz])) ⟨_, rfl, q1 _ x2 _ (Same.refl _) rfl ?_⟩
        have e0 : decide (([y, x2] : List Int).getD 0 0 = z) = true := decide_eq_true hyz
        rw [hA]; unfold outsL; rw [hf, if_pos e0, List.map_append]; rfl
      · refine iteN (decide_eq_false (fun q => hyz (V.int.inj q))) (q2 _ (Same.refl _) ?_)
        have e0 : ¬ decide (([y, x2] : List Int).getD 0 0 = z) = true := fun q => hyz (of_decide_eq_true q)
        rw [hA]; unfold outsL; rw [hf, if_neg e0]
    · intro H' ys ds r e pr hA _
      have ey := paired_map pr
      subst ey
      rw [hA, hxl, List.take_length] at e
      exact k H' D r e

def sp_reach (C : Addr) : Sp := fun vs H Q _ => ∃ v m ls, ∃ s : Int, ∃ M : Nat, vs = [v, .int s] ∧ WebAt C H v m ls ∧ ls.Nodup ∧ (∀ l ∈ ls, l.length = 2 ∧ 0 ≤ l.getD 1 0 ∧ l.getD 1 0 < (M : Int)) ∧ 0 ≤ s ∧ s < (M : Int) ∧ M ≤ 1000 ∧ ls.length ≤ 1000 ∧
  ∀ H' r us, Same H H' → Closed ls M s us → TI H' r us → Q r H'
theorem ok_reach (T : Txt K mg) : FnOk P w K mg base CX0 2 (He.ga K "reach_of") (fdOf K ("reach_of", none)) ["web", "machine"] (sp_reach (He.ga K "RawWeb")) := by
  refine okF T.d_reach_of.fn sc_reach_of (fun vs H Q E h => ?_) (fun cdv A outer s H vs Q E hr h => ?_)
  · obtain ⟨v, m, ls, z, M, rfl, _⟩ := h; rfl
  · obtain ⟨v, m, ls, z, M, rfl, hw, hnd, hls, z0, zM, hM, hz, k⟩ := h
    refine ⟨_, pss_cons (ps_set (i := 2) sc_reach_of.nd rfl (.inr rfl) (pe_lst (pa_cons (pv 1) pa_nil)))
      (pss_cons (ps_set (i := 3) sc_reach_of.nd rfl (.inl rfl) pe_int)
      (pss_cons (ps_while PassesOwn.never (pt_cmpR op_lt (pv 3) (pe_callB call_len_seq (by rfl) T.m_len PySem.boot_len (pa_cons (pv 2) pa_nil)) (nomark _))
        (pss_cons (ps_expr (pe_bm PySem.F.plainAttrs_list PySem.F.slot_list_extend PySem.F.type_list_extend mt_extend (pv 2) (pa_cons
          (pe_lc (own := [("x", 4)]) (g := gName 4) rfl sc_reach_of.nd (pi_list (pe_d T.d_outs (ok_outs T) hr (pa_cons (pv 0) (pa_cons (pe_ix ix_list (pv 2) (pv 3) (fun _ _ => rfl)) pa_nil)))) (blkOk_by (N := ["web", "machine", "found", "done", "x"]) (sc := defScope s_reach_of) (by decide +kernel))
            (fun _ _ _ _ _ => pg_name (i := 4) sc_reach_of.nd rfl (Or.inl rfl)) (fun _ _ _ _ _ => pts_one (pt_cmpR (k_notIn (K := K)) (pv 4) (pv 2) rfl)) (fun _ _ _ _ _ => pv 4)) pa_nil)))
        (pss_one (ps_aug (i := 3) sc_reach_of.nd rfl (.inl rfl) pe_int ip_add))))
      (pss_one (ps_ret (pe_callTy call_tuple_of (by rfl) T.m_tuple bt_tuple (pa_cons (pe_callB cr_sortedI (by rfl) T.m_sorted bt_sorted (pa_cons (pv 2) pa_nil)) pa_nil)))))), ?_⟩
    refine ⟨_, rfl, by show 1 ≤ sizeLine; decide, fun l nl => ?_⟩
    have R0 : Rch ls M z [z] 0 := ⟨by simp, List.mem_singleton.mpr rfl, fun n hn => by rw [List.mem_singleton.mp hn]; exact ⟨z0, zM⟩, Nat.zero_le _, fun k n hk => absurd hk (Nat.not_lt_zero _)⟩
    refine ⟨fun n σ H' => ∃ ns d, σ = [some v, some (.int z), some (.ref l), some (.int (d : Nat)), none] ∧ Same H H' ∧ H' l = some (.lst (ns.map V.int)) ∧ Rch ls M z ns d ∧ n = M - d, ⟨M, [z], 0, rfl, same_new nl, upd_same, R0, rfl⟩, ?_⟩
    rintro n σ H1 ⟨ns, d, rfl, s1, hl, R, rfl⟩
    refine ⟨_, rfl, _, rfl, l, _, rfl, .inl (SqL.of hl), _, _, rfl, rfl, _, rfl, ?_⟩
    have e0 : (ns.map V.int).length = ns.length := List.length_map ..
    by_cases hd : d < ns.length
    · refine iteB (by rw [e0]; exact decide_eq_true (by omega)) ?_
      refine ⟨fun σ' H' => ∃ ns, σ' = [some v, some (.int z), some (.ref l), some (.int ((d + 1 : Nat) : Int)), none] ∧ Same H H' ∧ H' l = some (.lst (ns.map V.int)) ∧ Rch ls M z ns (d + 1), ?_, ?_⟩
      · rintro σ' H' ⟨ns', e1, e2, e3, e4⟩
        have := R.len
        exact ⟨M - (d + 1), by omega, ns', d + 1, e1, e2, e3, e4, rfl⟩
      · have hdn : ns[d]? = some ns[d] := List.getElem?_eq_getElem hd
        refine ⟨_, rfl, .inl ⟨rfl, _, SqL.of hl⟩, ?_⟩
        refine ⟨_, rfl, _, rfl, _, rfl, l, _, _, _, rfl, rfl, SqL.of hl, atI_nat (get_map_int hdn), v, m, ls, _, rfl, hw.same s1, fun q hq => (hls q hq).1, hz, fun H2 b s2 hb => ?_⟩
        have hl2 : H2 l = some (.lst (ns.map V.int)) := s2 _ _ hl
        refine ⟨b, rfl, ⟨_, SqL.of hb⟩, fun D hD => ?_⟩
        have hol : (outsL ls ns[d]).length ≤ 1000 := by
          unfold outsL
          rw [List.length_map]
          exact Nat.le_trans (List.length_filter_le ..) hz
        refine lc_same walk_list (fun y (x : Int) _ => y = V.int x) (fun i ds => ds = ((outsL ls ns[d]).take i).filter fun x => !decide (x ∈ ns)) hD (fun _ _ _ _ _ h => h) rfl (fun H' r => SqL.of (r _ _ hb)) (by rw [List.length_map]; omega) ?_ ?_
        · rintro i x H3 _ ds hi r hA ⟨rfl, e⟩ Qt Qf q1 q2
          obtain ⟨j, hj, rfl⟩ := map_int_get e
          have hf := filterL (fun x : Int => !decide (x ∈ ns)) _ i j hj
          refine ⟨rfl, _, rfl, _, rfl, l, _, rfl, .inl (SqL.of (r _ _ hl2)), rfl, flat_ints ns, _, rfl, ?_⟩
          by_cases hin : j ∈ ns
          · refine iteN (by show (!inV (.int j) (ns.map V.int)) = false; rw [inV_int, decide_eq_true hin]; rfl) (q2 _ (Same.refl _) ?_)
            rw [hA, hf, if_neg (by simp [hin])]
          · refine iteB (by show (!inV (.int j) (ns.map V.int)) = true; rw [inV_int, decide_eq_false hin]; rfl) ⟨_, rfl, q1 _ j _ (Same.refl _) rfl ?_⟩
            rw [hA, hf, if_pos (by simp [hin])]
        · intro H3 ys ds s3 e3 pr hA _
          have ey := paired_map pr
          subst ey
          rw [List.length_map, List.take_length] at hA
          subst hA
          have hl3 := s3 _ _ hl2
          have R' := R.turn hdn hnd (fun q hq => (hls q hq).1) (fun q hq => (hls q hq).2)
          have hlen := R'.len
          rw [List.length_append] at hlen
          refine ⟨l, D, _, _, rfl, rfl, hl3, e3, ?_, ?_⟩
          · rw [List.length_map, List.length_map]; exact size_ok (by omega)
          · refine ⟨_, rfl, d, 1, rfl, rfl, _, ?_, same_mut ((s1.trans s2).trans s3) nl, by rw [← List.map_append]; exact upd_same, R'⟩
            rfl
    · refine iteN (by rw [e0]; exact decide_eq_false (by omega)) ?_
      have C := R.closed (by omega)
      refine ⟨_, rfl, l, ns, rfl, SqL.of hl, fun us q hperm _ nq => ⟨q, _, rfl, .inl ⟨SqL.of upd_same, fun c nc => ?_⟩⟩⟩
      exact k _ _ us ((s1.trans (same_new nq)).trans (same_new nc)) (C.perm hperm) ⟨c, rfl, upd_same⟩
/-- each pair, and each turned about -/
def swapL (l : List Int) : List Int := [l.getD 1 0, l.getD 0 0]
def sp_doubled : Sp := fun vs H Q _ => ∃ v ls, vs = [v] ∧ TTI H v ls ∧ (∀ l ∈ ls, l.length = 2) ∧ ls.length ≤ 1000 ∧ ∀ H' r xs, Same H H' → H' r = some (.lst xs) → Paired (TI H') xs (ls ++ ls.map swapL) → Q (.ref r) H'
theorem ok_doubled (T : Txt K mg) : FnOk P w K mg base CX0 1 (He.ga K "doubled") (fdOf K ("doubled", none)) ["pairs"] sp_doubled := by
  refine okF T.d_doubled.fn sc_doubled (fun vs H Q E h => ?_) (fun cdv A outer s H vs Q E hr h => ?_)
  · obtain ⟨v, ls, rfl, _⟩ := h; rfl
  · obtain ⟨v, ls, rfl, ⟨a, xs, rfl, ha, hx⟩, h2, hz, k⟩ := h
    refine ⟨_, pss_one (ps_ret (pe_op op_cat (pe_callTy call_list_of (by rfl) T.m_list bt_list (pa_cons (pv 0) pa_nil))
      (pe_lc (own := [("y", 1), ("x", 2)]) (g := gTup K 2 (gCons (gName 1) (gCons (gName 2) gNil))) rfl sc_doubled.nd (pi_tup (pv 0)) (blkOk_by (N := ["pairs", "y", "x"]) (sc := defScope s_doubled) (by decide +kernel))
      (fun _ _ _ _ _ => pg_tup rfl (pgs_cons (pg_name (i := 1) sc_doubled.nd rfl (Or.inl rfl)) (pgs_cons (pg_name (i := 2) sc_doubled.nd rfl (Or.inl rfl)) pgs_nil)))
      (fun _ _ _ _ _ => pts_nil) (fun _ _ _ _ _ => pe_tup (pa_cons (pv 2) (pa_cons (pv 1) pa_nil)))))), ?_⟩
    have hxl : xs.length = ls.length := hx.length
    refine ⟨_, rfl, a, xs, rfl, .inr (SqT.of ha), fun l nl => ?_⟩
    have s1 : Same H (upd H l (.lst xs)) := same_new nl
    refine ⟨_, rfl, a, rfl, ⟨_, SqT.of (s1 _ _ ha)⟩, fun D hD => ?_⟩
    refine lc_map walk_tup (fun y d H => TI H y d) (fun i => swapL (ls.getD i [])) hD (fun _ _ _ _ k h => h.im k) (fun H' r => SqT.of (r _ _ (s1 _ _ ha))) (by omega) ?_ ?_
    · rintro i x H1 _ hi r ⟨rfl, e⟩ Qt q
      obtain ⟨p, hp, b, rfl, hb⟩ := paired_get hx e
      have hp2 := h2 p (List.mem_of_getElem? hp)
      match p, hp2 with
      | [y, z], _ =>
      refine ⟨b, _, rfl, SqT.of (r _ _ (s1 _ _ hb)), rfl, .int y, [.int z], rfl, .int z, [], rfl, rfl, rfl, ?_⟩
      refine ⟨_, rfl, _, rfl, by show 2 ≤ sizeLine; decide, fun t nt => q _ _ (same_new nt) ⟨t, rfl, ?_⟩⟩
      rw [List.getD_eq_getElem?_getD, hp]
      exact upd_same
    · intro H2 ys s2 e2 pr
      rw [hxl, range_map_getF [] ls swapL] at pr
      have hy := pr.length
      rw [List.length_map] at hy
      have e1 : H2 l = some (.lst xs) := s2 _ _ upd_same
      refine ⟨l, D, xs, ys, rfl, rfl, e1, e2, size_ok (by omega), fun q nq => ?_⟩
      have s3 := s2.trans (same_new (o := .lst (xs ++ ys)) nq)
      exact k _ q (xs ++ ys) (s1.trans s3) upd_same (paired_append (pti_im hx (same_im (s1.trans s3))) (pti_im pr (im_new nq)))
def sp_web_of (C : Addr) : Sp := fun vs H Q _ => ∃ v ls, ∃ B : Int, vs = [v] ∧ TTI H v ls ∧ (∀ l ∈ ls, l.length = 2 ∧ TS.Bd B l) ∧ ls.length < 32 ∧
  ∀ H' r us, Same H H' → us.Nodup → (∀ q, q ∈ us ↔ q ∈ ls ++ ls.map swapL) → WebAt C H' r ((ls.length : Int) + 1) us → Q r H'
theorem ok_web_of (T : Txt K mg) : FnOk P w K mg base CX0 5 (He.ga K "web_of") (fdOf K ("web_of", none)) ["links"] (sp_web_of (He.ga K "RawWeb")) := by
  refine okF T.d_web_of.fn sc_web_of (fun vs H Q E h => ?_) (fun cdv A outer s H vs Q E hr h => ?_)
  · obtain ⟨v, ls, B, rfl, _⟩ := h; rfl
  · obtain ⟨v, ls, B, rfl, ht, h2, hz, k⟩ := h
    obtain ⟨a, xs, rfl, ha, hx⟩ := id ht
    refine ⟨_, pss_one (ps_ret (pe_d T.d_raw_web (ok_raw_web T) hr (pa_cons (pe_op op_add (pe_callB call_len_seq (by rfl) T.m_len PySem.boot_len (pa_cons (pv 0) pa_nil)) pe_int) (pa_cons (pe_d T.d_doubled (ok_doubled T) (hr.mono (by decide)) (pa_cons (pv 0) pa_nil)) pa_nil)))), ?_⟩
    refine ⟨_, rfl, a, xs, rfl, .inr (SqT.of ha), _, _, rfl, rfl, _, rfl, _, ls, rfl, ht, fun l hl => (h2 l hl).1, by omega, fun H1 r ys s1 hr1 py => ?_⟩
    have hxl : xs.length = ls.length := hx.length
    refine ⟨_, r, ys, _, B, rfl, hr1, py, by rw [List.length_append, List.length_map]; omega, fun q hq => ?_, fun H2 v us s2 nd hm hw => k H2 v us (s1.trans s2) nd hm (by rw [hxl] at hw; exact hw)⟩
    rcases List.mem_append.mp hq with hq | hq
    · exact h2 q hq
    · obtain ⟨l, hl, rfl⟩ := List.mem_map.mp hq
      obtain ⟨h3, h4⟩ := h2 l hl
      match l, h3 with
      | [y, z], _ =>
      refine ⟨rfl, fun n hn => h4 n ?_⟩
      have : n = z ∨ n = y := by
        have e : n ∈ [z, y] := hn
        simpa using e
      rcases this with rfl | rfl <;> simp
end
end GA
/-! GaHalls: is_link, are_links, Hall. -/
namespace GA
open PySem PySem.Spec PyProof.Rows L2
/-- links by which all nodes hang together, ascending -/
structure LinksOk (ls : List (List Int)) : Prop where
  few : ls.length ≤ 11
  each : ∀ l ∈ ls, ∃ o t, l = [o, t] ∧ 0 ≤ o ∧ o < t ∧ t ≤ (ls.length : Int)
  asc : ∀ i l l', ls[i]? = some l → ls[i + 1]? = some l' → HT.lexLt l l' = true
  conn : ∀ us : List Int, us.Nodup → (0 : Int) ∈ us → (∀ n ∈ us, 0 ≤ n ∧ n ≤ (ls.length : Int)) → (∀ l ∈ ls, l.getD 0 0 ∈ us ↔ l.getD 1 0 ∈ us) → us.length = ls.length + 1
def hallF (lv pv : V) : List (Str × V) := putF "places" pv (putF "links" lv [])
theorem hallF_l {lv pv : V} : (hallF lv pv).lookup ("links" : Str) = some lv := by
  unfold hallF
  rw [lookup_putF, if_neg (by decide +kernel), lookup_putF, if_pos rfl]
theorem hallF_p {lv pv : V} : (hallF lv pv).lookup ("places" : Str) = some pv := by
  unfold hallF
  rw [lookup_putF, if_pos rfl]
structure HallOk (ls : List (List Int)) (ps : List Int) : Prop where
  links : LinksOk ls
  some_ : 1 ≤ ps.length
  few : ps.length ≤ 7
  node : ∀ n ∈ ps, 0 ≤ n ∧ n ≤ (ls.length : Int)
  relay : ∀ n : Int, 0 ≤ n → n ≤ (ls.length : Int) → n ∉ ps → 3 ≤ (ls.filter fun l => decide (n ∈ l)).length
def HallAt (C : Addr) (H : Hp) (v : V) (ls : List (List Int)) (ps : List Int) : Prop := ∃ p dx lv pv, v = .ref p ∧ H p = some (.ins C dx (hallF lv pv)) ∧ TTI H lv ls ∧ TI H pv ps
theorem HallAt.same {C : Addr} {H H' : Hp} {v : V} {ls : List (List Int)} {ps : List Int} (h : HallAt C H v ls ps) (k : Same H H') : HallAt C H' v ls ps :=
  let ⟨p, dx, lv, pv, e, q, t, u⟩ := h; ⟨p, dx, lv, pv, e, k _ _ q, t.im (same_im k), u.im (same_im k)⟩
section
variable {P : Program} {w : World} {K : PySem.W.Frag} {mg : Str → Option Value} {base : Heap}
def sp_is_link : Sp := fun vs H Q _ => ∃ v, ∃ n o t : Int, vs = [v, .int n] ∧ TI H v [o, t] ∧ 0 ≤ o ∧ o < t ∧ t ≤ n - 1 ∧ Q (.bl true) H
theorem ok_is_link (T : Txt K mg) : FnOk P w K mg base CX0 3 (He.ga K "is_link") (fdOf K ("is_link", none)) ["thing", "nodes"] sp_is_link := by
  refine okF T.d_is_link.fn sc_is_link (fun vs H Q E h => ?_) (fun cdv A outer s H vs Q E hr h => ?_)
  · obtain ⟨v, n, o, t, rfl, _⟩ := h; rfl
  · obtain ⟨v, n, o, t, rfl, ⟨a, rfl, ha⟩, h1, h2, h3, k⟩ := h
    refine ⟨_, pss_one (ps_ret (pe_and (pe_d T.d_is_pair (ok_is_pair T) (hr.mono (by decide)) (pa_cons (pv 0) pa_nil))
      (pe_and (pe_d T.d_is_within (ok_is_within T) hr (pa_cons (pe_ix ix_tup (pv 0) pe_int (fun _ _ => rfl)) (pa_cons pe_int (pa_cons (pe_op op_sub (pv 1) pe_int) pa_nil))))
      (pe_one (pe_d T.d_is_within (ok_is_within T) hr (pa_cons (pe_ix ix_tup (pv 0) pe_int (fun _ _ => rfl)) (pa_cons (pe_op op_add (pe_ix ix_tup (pv 0) pe_int (fun _ _ => rfl)) pe_int) (pa_cons (pe_op op_sub (pv 1) pe_int) pa_nil)))))))), ?_⟩
    have hs := SqT.of (K := K) ha
    refine ⟨_, rfl, a, .int o, .int t, rfl, ha, true, rfl, iteT ?_⟩
    refine ⟨_, rfl, a, _, 0, .int o, rfl, rfl, hs, rfl, _, rfl, _, _, rfl, rfl, o, 0, n - 1, rfl, h1, by omega, true, rfl, iteT ?_⟩
    exact ⟨_, rfl, a, _, 1, .int t, rfl, rfl, hs, rfl, _, rfl, a, _, 0, .int o, rfl, rfl, hs, rfl, _, _, rfl, rfl, _, rfl, _, _, rfl, rfl, t, o + 1, n - 1, rfl, by omega, h3, k⟩
def sp_are_links : Sp := fun vs H Q _ => ∃ v ls, vs = [v] ∧ TTI H v ls ∧ LinksOk ls ∧ ∀ H', Same H H' → Q (.bl true) H'
theorem ok_are_links (T : Txt K mg) : FnOk P w K mg base CX0 6 (He.ga K "are_links") (fdOf K ("are_links", none)) ["thing"] sp_are_links := by
  refine okF T.d_are_links.fn sc_are_links (fun vs H Q E h => ?_) (fun cdv A outer s H vs Q E hr h => ?_)
  · obtain ⟨v, ls, rfl, _⟩ := h; rfl
  · obtain ⟨v, ls, rfl, ht, ok, k⟩ := h
    obtain ⟨a, xs, rfl, ha, hx⟩ := id ht
    have hxl : xs.length = ls.length := hx.length
    have few := ok.few
    refine ⟨_, pss_cons (ps_if (PW.pt (pw_or (pt_not (pt_val (pe_d T.d_is_sized (ok_is_sized T) (hr.mono (by decide)) (pa_cons (pv 0) (pa_cons pe_int (pa_cons (pe_gi T.c_MOST_LINKS) pa_nil))))))
        (pw_or1 (pt_not (pt_val (pe_callB (cr_all rfl) (by rfl) T.m_all bt_all (pa_cons
          (pe_lc (own := [("link", 1)]) (g := gName 1) rfl sc_are_links.nd (pi_tup (pv 0)) (blkOk_by (N := ["thing", "link", "at"]) (sc := defScope s_are_links) (by decide +kernel)) (fun _ _ _ _ _ => pg_name (i := 1) sc_are_links.nd rfl (Or.inl rfl)) (fun _ _ _ _ _ => pts_nil)
            (fun _ _ _ _ _ => pe_d T.d_is_link (ok_is_link T) (hr.mono (by decide)) (pa_cons (pv 1) (pa_cons (pe_op op_add (pe_callB (k_len (K := K)) (by rfl) T.m_len PySem.boot_len (pa_cons (pv 0) pa_nil)) pe_int) pa_nil))))
          pa_nil)))))))
        (pss_one (ps_ret pe_bl)) pss_nil)
      (pss_cons (ps_if (pt_not (pt_val (pe_callB (cr_all rfl) (by rfl) T.m_all bt_all (pa_cons
          (pe_lc (own := [("at", 2)]) (g := gName 2) rfl sc_are_links.nd (pi_range1 (by rfl) T.m_range (pa_cons (pe_op op_sub (pe_callB call_len_seq (by rfl) T.m_len PySem.boot_len (pa_cons (pv 0) pa_nil)) pe_int) pa_nil)) (blkOk_by (N := ["thing", "link", "at"]) (sc := defScope s_are_links) (by decide +kernel)) (fun _ _ _ _ _ => pg_name (i := 2) sc_are_links.nd rfl (Or.inl rfl)) (fun _ _ _ _ _ => pts_nil)
            (fun _ _ _ _ _ => pe_cmpR (k_ltT (K := K) hr.units0) (pe_ix (k_ixT (K := K)) (pv 0) (pv 2) (fun _ _ => rfl)) (pe_ix (k_ixT (K := K)) (pv 0) (pe_op op_add (pv 2) pe_int) (fun _ _ => rfl)) (nomark _)))
          pa_nil))))
        (pss_one (ps_ret pe_bl)) pss_nil)
      (pss_one (ps_ret (pe_cmpR op_eq (pe_callB call_len_seq (by rfl) T.m_len PySem.boot_len (pa_cons (pe_d T.d_reach_of (ok_reach T) (hr.mono (by decide)) (pa_cons (pe_d T.d_web_of (ok_web_of T) hr (pa_cons (pv 0) pa_nil)) (pa_cons pe_int pa_nil))) pa_nil))
        (pe_op op_add (pe_callB call_len_seq (by rfl) T.m_len PySem.boot_len (pa_cons (pv 0) pa_nil)) pe_int) (nomark _))))), ?_⟩
    -- is_sized, all is_link
    refine ⟨_, rfl, _, xs, 0, 11, rfl, ha, by omega, by omega, true, rfl, iteF ?_⟩
    refine ⟨_, rfl, a, rfl, ⟨_, SqT.of ha⟩, fun D hD => ?_⟩
    refine lc_map walk_tup (fun y d _ => y = V.bl d) (fun _ => true) hD (fun _ _ _ _ _ h => h) (fun H' r => SqT.of (r _ _ ha)) (by omega) ?_ ?_
    · rintro i x H1 _ hi r ⟨rfl, e⟩ Qt q
      obtain ⟨l, hl, tl⟩ := paired_get hx e
      obtain ⟨o, t, rfl, h1, h2, h3⟩ := ok.each l (List.mem_of_getElem? hl)
      exact ⟨rfl, _, rfl, _, rfl, a, xs, rfl, .inr (SqT.of (r _ _ ha)), _, _, rfl, rfl, x, _, o, t, rfl, tl.im (same_im r), h1, h2, by omega, q _ _ (Same.refl _) rfl⟩
    · intro H1 ys s1 e1 p1
      have ey := paired_map p1
      subst ey
      have ha1 := s1 _ _ ha
      refine ⟨D, _, rfl, SqL.of e1, _, rfl, iteN (by rw [all_true]; rfl) ?_⟩
      -- ascending
      refine ⟨_, rfl, a, xs, rfl, .inr (SqT.of ha1), _, _, rfl, rfl, _, rfl, by omega, by omega, fun D2 hD2 => ?_⟩
      refine lc_map walk_range (fun y d _ => y = V.bl d) (fun _ => true) hD2 (fun _ _ _ _ _ h => h) (fun _ _ => trivial) (by omega) ?_ ?_
      · rintro i x H2 _ hi r ⟨rfl, rfl⟩ Qt q
        have h0 : i < xs.length := by omega
        have h1 : i + 1 < xs.length := by omega
        obtain ⟨l, hl, b, eb, tl⟩ := paired_get hx (List.getElem?_eq_getElem h0)
        obtain ⟨l', hl', b', eb', tl'⟩ := paired_get hx (List.getElem?_eq_getElem h1)
        have ha2 := r _ _ ha1
        refine ⟨rfl, ?_⟩
        refine ⟨_, rfl, _, rfl, a, xs, _, _, rfl, rfl, SqT.of ha2, at_of (by omega) (List.getElem?_eq_getElem h0), ?_⟩
        refine ⟨_, rfl, _, rfl, _, _, rfl, rfl, a, xs, _, _, rfl, rfl, SqT.of ha2, at_of (j := i + 1) (by omega) (List.getElem?_eq_getElem h1), ?_⟩
        refine ⟨b, b', l, l', eb, eb', SqT.of (r _ _ (s1 _ _ tl)), SqT.of (r _ _ (s1 _ _ tl')), ?_⟩
        exact q _ _ (Same.refl _) (by rw [ok.asc i l l' hl hl'])
      · intro H2 ys s2 e2 p2
        have ey := paired_map p2
        subst ey
        have ha2 := s2 _ _ ha1
        refine ⟨D2, _, rfl, SqL.of e2, _, rfl, iteN (by rw [all_true]; rfl) ?_⟩
        -- reach_of
        refine ⟨_, rfl, _, ls, ((ls.length : Nat) : Int) + 1, rfl, ht.im (same_im (s1.trans s2)), fun l hl => ?_, by omega, fun H3 rv us s3 nd hm hw => ?_⟩
        · obtain ⟨o, t, rfl, h1, h2, h3⟩ := ok.each l hl
          refine ⟨rfl, fun n hn => ?_⟩
          have : n = o ∨ n = t := by simpa using hn
          rcases this with rfl | rfl <;> exact ⟨by omega, by omega⟩
        have hul : us.length ≤ 1000 := by
          have h1 : us.length ≤ (ls ++ ls.map swapL).length := by
            have := List.Nodup.length_le_of_subset nd (fun q hq => (hm q).mp hq)
            exact this
          rw [List.length_append, List.length_map] at h1
          omega
        refine ⟨rv, _, us, 0, ls.length + 1, rfl, hw, nd, fun l hl => ?_, by decide, by omega, by omega, hul, fun H4 r2 vs s4 C4 t4 => ?_⟩
        · rcases List.mem_append.mp ((hm l).mp hl) with hl | hl
          · obtain ⟨o, t, rfl, h1, h2, h3⟩ := ok.each l hl
            exact ⟨rfl, show 0 ≤ t by omega, show t < ((ls.length + 1 : Nat) : Int) by omega⟩
          · obtain ⟨l', hl', rfl⟩ := List.mem_map.mp hl
            obtain ⟨o, t, rfl, h1, h2, h3⟩ := ok.each l' hl'
            exact ⟨rfl, show 0 ≤ o by omega, show o < ((ls.length + 1 : Nat) : Int) by omega⟩
        obtain ⟨b, rfl, hb⟩ := t4
        have hlen := ok.conn vs C4.nd C4.hd (fun n hn => by have := C4.rg n hn; omega) fun l hl => by
          constructor
          · intro h0
            exact C4.cl l ((hm l).mpr (List.mem_append_left _ hl)) h0
          · intro h0
            exact C4.cl (swapL l) ((hm _).mpr (List.mem_append_right _ (List.mem_map_of_mem hl))) h0
        have s5 := (s1.trans s2).trans (s3.trans s4)
        refine ⟨b, _, rfl, .inr (SqT.of hb), _, rfl, a, xs, rfl, .inr (SqT.of (s5 _ _ ha)), _, _, rfl, rfl, rfl, ?_⟩
        refine bl_true (decide_eq_true ?_) (k _ s5)
        rw [List.length_map, hlen, hxl]; rfl
end
end GA
/-! GaHalls2: Hall. -/
namespace GA
open PySem PySem.Spec PyProof.Rows L2
section
variable {P : Program} {w : World} {K : PySem.W.Frag} {mg : Str → Option Value} {base : Heap}
def sp_hallI (C : Addr) : Sp := fun vs H Q _ => ∃ p dx lv pv ls ps, vs = [.ref p, lv, pv] ∧ H p = some (.ins C dx []) ∧ TTI H lv ls ∧ TI H pv ps ∧ HallOk ls ps ∧ ∀ H', Keep p H H' → H' p = some (.ins C dx (hallF lv pv)) → Q .non H'
theorem ok_hallI (T : Txt K mg) : FnOk P w K mg base CX0 7 (He.ma K (He.ga K "Hall") "__init__") (fdOf K ("Hall", some "__init__")) ["self", "links", "places"] (sp_hallI (He.ga K "Hall")) := by
  refine okF T.t_Hall_init.fn sc_Hall_init (fun vs H Q E h => ?_) (fun cdv A outer s H vs Q E hr h => ?_)
  · obtain ⟨p, dx, lv, pv, ls, ps, rfl, _⟩ := h; rfl
  · obtain ⟨p, dx, lv, pv', ls, ps, rfl, hp, ht, ⟨b, rfl, hb⟩, ok, k⟩ := h
    obtain ⟨a, xs, rfl, ha, hx⟩ := id ht
    have hxl : xs.length = ls.length := hx.length
    have few := ok.links.few
    have f1 := ok.some_
    have f7 := ok.few
    refine ⟨_, pss_cons (ps_if (pt_not (pt_val (pe_d T.d_is_sized (ok_is_sized T) (hr.mono (by decide)) (pa_cons (pv 2) (pa_cons pe_int (pa_cons (pe_gi T.c_MOST_MACHINES_halls) pa_nil)))))) (pss_one ps_never) pss_nil)
      (pss_cons (ps_if (pt_not (pt_val (pe_d T.d_are_links (ok_are_links T) hr (pa_cons (pv 1) pa_nil)))) (pss_one ps_never) pss_nil)
      (pss_cons (ps_for PassesOwn.never rfl (pi_enumT (by rfl) T.m_enumerate (pa_cons (pv 2) pa_nil)) (pg_tup rfl (pgs_cons (pg_name (i := 3) sc_Hall_init.nd rfl (Or.inl rfl)) (pgs_cons (pg_name (i := 4) sc_Hall_init.nd rfl (Or.inr rfl)) pgs_nil)))
        (pss_one (ps_if (pt_not (pt_val (pe_d T.d_is_within (ok_is_within T) (hr.mono (by decide)) (pa_cons (pv 4) (pa_cons pe_int (pa_cons (pe_callB call_len_seq (by rfl) T.m_len PySem.boot_len (pa_cons (pv 1) pa_nil)) pa_nil)))))) (pss_one ps_never) pss_nil)))
      (pss_cons (ps_for PassesOwn.never rfl (pi_range1 (by rfl) T.m_range (pa_cons (pe_op op_add (pe_callB call_len_seq (by rfl) T.m_len PySem.boot_len (pa_cons (pv 1) pa_nil)) pe_int) pa_nil)) (pg_name (i := 4) sc_Hall_init.nd rfl (Or.inr rfl))
        (pss_one (ps_if (PW.pt (pw_and (pt_cmpR op_notIn_seq (pv 4) (pv 2) rfl) (pw_and1 (pt_cmpR op_lt (pe_callB call_len_seq (by rfl) T.m_len PySem.boot_len (pa_cons
            (pe_lc (own := [("link", 5)]) (g := gName 5) rfl sc_Hall_init.nd (pi_tup (pv 1)) (blkOk_by (N := ["self", "links", "places", "machine", "node", "link"]) (sc := defScope s_Hall_init) (by decide +kernel)) (fun _ _ _ _ _ => pg_name (i := 5) sc_Hall_init.nd rfl (Or.inl rfl))
              (fun _ _ _ _ _ => pts_one (pt_cmpR (k_in (K := K)) (pv 4) (pv 5) rfl)) (fun _ _ _ _ _ => pv 5)) pa_nil)) pe_int (nomark _)))))
          (pss_one ps_never) pss_nil)))
      (pss_cons (ps_fld (pv 0) (pv 1) rfl) (pss_one (ps_fld (pv 0) (pv 2) rfl)))))), ?_⟩
    refine ⟨_, rfl, b, _, 1, 7, rfl, hb, by rw [List.length_map]; omega, by rw [List.length_map]; omega, true, rfl, iteF ?_⟩
    refine ⟨_, rfl, _, ls, rfl, ht, ok.links, fun H1 s1 => ⟨true, rfl, iteF ?_⟩⟩
    refine ⟨_, rfl, b, _, rfl, SqT.of (s1 _ _ hb), for_it walk_enumT (fun i σ H' => ∃ y3 y4, σ = [some (.ref p), some (.ref a), some (.ref b), y3, y4, none] ∧ Same H H') ⟨none, none, rfl, s1⟩ (fun i σ H' _ q => let ⟨_, _, _, r⟩ := q; SqT.of (r _ _ hb)) ?_ ?_⟩
    · rintro i _ _ H2 _ hi ⟨y3, y4, rfl, r⟩ ⟨Tp, x1, x2, rfl, nT, rfl, e1, e2⟩
      cases Option.some.inj e1
      obtain ⟨n, hn, rfl⟩ := map_int_get e2
      have r2 : Same H2 (upd H2 Tp (.tup [.int (i : Nat), .int n])) := same_new nT
      obtain ⟨n0, n1⟩ := ok.node n (List.mem_of_getElem? hn)
      refine ⟨Tp, _, rfl, SqT.of upd_same, rfl, _, _, rfl, _, _, rfl, rfl, ?_⟩
      refine ⟨_, rfl, _, rfl, a, xs, rfl, .inr (SqT.of ((r.trans r2) _ _ ha)), n, 0, _, rfl, n0, by omega, true, rfl, iteF ?_⟩
      exact ⟨_, _, rfl, r.trans r2⟩
    · rintro _ H2 ⟨y3, y4, rfl, r⟩
      refine ⟨_, rfl, a, xs, rfl, .inr (SqT.of (r _ _ ha)), _, _, rfl, rfl, _, rfl, by omega, by omega, for_it walk_range (fun i σ H' => ∃ y4, σ = [some (.ref p), some (.ref a), some (.ref b), y3, y4, none] ∧ Same H H') ⟨y4, rfl, r⟩ (fun _ _ _ _ _ => trivial) ?_ ?_⟩
      · rintro i _ _ H3 _ hi ⟨y4, rfl, r3⟩ ⟨rfl, rfl⟩
        have eN : (0 : Int) + (i : Int) = (i : Int) := Int.zero_add _
        refine ⟨_, rfl, _, rfl, b, _, rfl, .inr (SqT.of (r3 _ _ hb)), rfl, flat_ints ps, _, rfl, ?_⟩
        by_cases hin : (0 : Int) + (i : Int) ∈ ps
        · refine iteN (by show (!inV (.int _) (ps.map V.int)) = false; rw [inV_int, decide_eq_true hin]; rfl) ?_
          refine iteF ?_
          exact ⟨_, rfl, r3⟩
        · refine iteB (by show (!inV (.int _) (ps.map V.int)) = true; rw [inV_int, decide_eq_false hin]; rfl) ?_
          refine ⟨_, rfl, a, rfl, ⟨_, SqT.of (r3 _ _ ha)⟩, fun D hD => ?_⟩
          refine lc_same walk_tup (fun y (l : List Int) H => TI H y l) (fun j ds => ds = (ls.take j).filter fun l => decide ((0 : Int) + (i : Int) ∈ l)) hD (fun _ _ _ _ k h => h.im k) rfl (fun H' r => SqT.of (r _ _ (r3 _ _ ha))) (by omega) ?_ ?_
          · rintro j x H4 _ ds hj r hA ⟨rfl, e⟩ Qt Qf q1 q2
            obtain ⟨l, hl, tl⟩ := paired_get hx e
            obtain ⟨c, rfl, hc⟩ := id tl
            have s4 := r3.trans r
            have hf := filterL (fun l : List Int => decide ((0 : Int) + (i : Int) ∈ l)) ls j l hl
            refine ⟨rfl, _, rfl, _, rfl, c, _, rfl, .inr (SqT.of (s4 _ _ hc)), rfl, flat_ints l, _, rfl, ?_⟩
            by_cases hl2 : (0 : Int) + (i : Int) ∈ l
            · refine iteB (by show inV (.int _) (l.map V.int) = true; rw [inV_int, decide_eq_true hl2]) ⟨_, rfl, q1 _ l _ (Same.refl _) (tl.im (same_im s4)) ?_⟩
              rw [hA, hf, if_pos (decide_eq_true hl2)]
            · refine iteN (by show inV (.int _) (l.map V.int) = false; rw [inV_int, decide_eq_false hl2]) (q2 _ (Same.refl _) ?_)
              rw [hA, hf, if_neg (by rw [decide_eq_true_iff]; exact hl2)]
          · intro H4 ys ds s4 e4 pr hA _
            rw [hxl, List.take_length] at hA
            have h3 := ok.relay _ (by omega) (by omega) hin
            have hyl := pr.length
            subst hA
            refine ⟨D, ys, rfl, .inl (SqL.of e4), _, _, rfl, rfl, _, rfl, ?_⟩
            rw [decide_eq_false (by omega)]
            refine iteF ?_
            exact ⟨_, rfl, r3.trans s4⟩
      · rintro _ H3 ⟨y4, rfl, r3⟩
        refine ⟨_, rfl, _, rfl, p, _, dx, [], rfl, r3 _ _ hp, T.C_Hall.cl, T.C_Hall.no "links" (by decide +kernel), (by show 0 < 1000; decide), ?_⟩
        refine ⟨_, rfl, _, rfl, p, _, dx, _, rfl, upd_same, T.C_Hall.cl, T.C_Hall.no "places" (by decide +kernel), (by show 1 < 1000; decide), ?_⟩
        exact k _ ((same_keep r3).put.put) upd_same
def HallsEq (C : Addr) (a b : Addr) (H : Hp) : Prop := ∃ ls ps, HallAt C H (.ref a) ls ps ∧ HallAt C H (.ref b) ls ps
theorem ok_hallEq (T : Txt K mg) : FnOk P w K mg base CX0 1 (He.ma K (He.ga K "Hall") "__eq__") (fdOf K ("Hall", some "__eq__")) ["self", "other"] (spEqB (HallsEq (He.ga K "Hall"))) := by
  refine okF T.t_Hall_eq.fn sc_Hall_eq (fun vs H Q E h => ?_) (fun cdv A outer s H vs Q E hr h => ?_)
  · obtain ⟨a, b, rfl, _⟩ := h; rfl
  · obtain ⟨a, b, rfl, ⟨ls, ps, ⟨_, dx, lv, pv', e1, q1, t1, u1⟩, ⟨_, dy, lw, pw, e2, q2, t2, u2⟩⟩, k⟩ := h
    cases e1
    cases e2
    refine ⟨_, pss_one (ps_ret (pe_and (pe_callB (C8.call_isC T.i_Hall) (by rfl) T.m_isinstance bt_isinstance (pa_cons (pv 1) (pa_cons (pe_gcl T.C_Hall.g) pa_nil)))
      (pe_and (pe_cmpR (op_eqD hr.units) (pe_fld (pv 0) rfl) (pe_fld (pv 1) rfl) (nomark _)) (pe_one (pe_cmpR (op_eqD hr.units) (pe_fld (pv 0) rfl) (pe_fld (pv 1) rfl) (nomark _)))))), ?_⟩
    refine ⟨_, rfl, b, dy, _, rfl, q2, true, rfl, iteT ?_⟩
    have nl := T.C_Hall.no "links" (by decide +kernel)
    have np := T.C_Hall.no "places" (by decide +kernel)
    refine ⟨_, rfl, a, _, dx, _, _, rfl, q1, T.C_Hall.cl, nl, hallF_l, _, rfl, b, _, dy, _, _, rfl, q2, T.C_Hall.cl, nl, hallF_l, dLL ls, dLL ls, dp_TTI t1, dp_TTI t2, shaped_dLL ls, shaped_dLL ls, _, rfl, ?_⟩
    refine iteB (SeqAt.eqv_refl _ (SeqAt.canLay_of_shaped (shaped_dLL ls))) ?_
    refine ⟨_, rfl, a, _, dx, _, _, rfl, q1, T.C_Hall.cl, np, hallF_p, _, rfl, b, _, dy, _, _, rfl, q2, T.C_Hall.cl, np, hallF_p, dL ps, dL ps, dp_TI u1, dp_TI u2, shaped_dL ps, shaped_dL ps, ?_⟩
    exact bl_eqv (shaped_dL ps) (k _ (Same.refl _))
end
end GA
/-! GaRecs: Record. -/
namespace GA
open PySem PySem.Spec PyProof.Rows L2
/-- parts of a text, for the scopes of inner comprehensions -/
def asgVal (s : Stmt) : Expr := match s with
  | .Assign _ v _ => v
  | _ => .Constant .none 0 ⟨0, 0, 0, 0⟩
def lcSc (e : Expr) : Scope := match e with
  | .ListComp _ _ sc _ => sc
  | _ => { kind := .function, names := [], isGenerator := false, isCoroutine := false }
def body (s : Stmt) (i : Nat) : Stmt := (defBody s).getD i (.Pass ⟨0, 0, 0, 0⟩)
theorem k_enumT {X : Cx} {K : PySem.W.Frag} {e : Expr} {ta : TA} {p pos tpos : Pos} {elts : List Expr} {kk : Nat} (hg : Gl X "enumerate") (hm : X.mg "enumerate" = none) (ha : PA X [e] ta) (hs : starEach [e] X.env = [(false, eval e X.env)] := by rfl) (eK : X.K = K := by rfl) :
    PI X (.Tuple elts kk tpos) (.Call (.Name "enumerate" p) [e] [] pos) (iEnumT K ta) := by subst eK; exact pi_enumT hg hm ha hs
theorem k_dictP {X : Cx} {K : PySem.W.Frag} (hc : X.calm = true) (eK : X.K = K := by rfl) : CallR X (.type "dict") (fun xs H Q => ∃ (a : Addr) (ps : List Addr) (kvs : List (Key × V)), xs = [.ref a] ∧ SqL K H a (ps.map V.ref) ∧
    Paired (fun p (kv : Key × V) => SqT K H p [kV kv.1, kv.2]) ps kvs ∧ ∀ p, H p = none → Q (.ref p) (upd H p (.dK (mergeK [] kvs)))) := by subst eK; exact call_dictP hc
theorem pairs_kv {K : PySem.W.Frag} {H : Hp} : ∀ {ys : List V} {ds : List (Int × Int)}, Paired (fun y (d : Int × Int) => TI H y [d.1, d.2]) ys ds →
    ∃ (ps : List Addr) (kvs : List (Key × V)), ys = ps.map V.ref ∧ Paired (fun p (kv : Key × V) => SqT K H p [kV kv.1, kv.2]) ps kvs
  | _, _, .nil => ⟨[], [], rfl, .nil⟩
  | _, _, .cons (b := d) ⟨a, e, q⟩ t => by
    obtain ⟨ps, kvs, h1, h2⟩ := pairs_kv (K := K) t
    exact ⟨a :: ps, (Sum.inl d.1, .int d.2) :: kvs, by rw [e, h1]; rfl, .cons (SqT.of q) h2⟩
structure RecOk (ws : List Int) (ds : List (List Int)) : Prop where
  some_ : 1 ≤ ds.length
  few : ds.length ≤ 7
  puts : ws.length ≤ 30
  writer : ∀ w ∈ ws, 0 ≤ w ∧ w ≤ (ds.length : Int) - 1
  nd : ∀ d ∈ ds, d.Nodup
  put : ∀ d ∈ ds, ∀ n ∈ d, 0 ≤ n ∧ n ≤ (ws.length : Int) - 1
  own : ∀ (i : Nat) (x : Nat) (d : List Int), ws[i]? = some (x : Int) → ds[x]? = some d → (i : Int) ∈ d
theorem RecOk.short {ws : List Int} {ds : List (List Int)} (ok : RecOk ws ds) {d : List Int} (h : d ∈ ds) : d.length ≤ 30 := by
  have := nodup_le ws.length d (ok.nd d h) fun n hn => by have := ok.put d h n hn; omega
  have := ok.puts
  omega
def recF (wv dv pl : V) : List (Str × V) := putF "places" pl (putF "diaries" dv (putF "writers" wv []))
theorem recF_w {wv dv pl : V} : (recF wv dv pl).lookup ("writers" : Str) = some wv := by
  unfold recF
  rw [lookup_putF, if_neg (by decide +kernel), lookup_putF, if_neg (by decide +kernel), lookup_putF, if_pos rfl]
theorem recF_d {wv dv pl : V} : (recF wv dv pl).lookup ("diaries" : Str) = some dv := by
  unfold recF
  rw [lookup_putF, if_neg (by decide +kernel), lookup_putF, if_pos rfl]
def RecAt (C : Addr) (H : Hp) (v : V) (ws : List Int) (ds : List (List Int)) : Prop := ∃ p dx wv dv pl, v = .ref p ∧ H p = some (.ins C dx (recF wv dv pl)) ∧ TI H wv ws ∧ TTI H dv ds
theorem RecAt.same {C : Addr} {H H' : Hp} {v : V} {ws : List Int} {ds : List (List Int)} (h : RecAt C H v ws ds) (k : Same H H') : RecAt C H' v ws ds :=
  let ⟨p, dx, wv, dv, pl, e, q, t, u⟩ := h; ⟨p, dx, wv, dv, pl, e, k _ _ q, t.im (same_im k), u.im (same_im k)⟩
section
variable {P : Program} {w : World} {K : PySem.W.Frag} {mg : Str → Option Value} {base : Heap}
def sp_rkeep (C : Addr) : Sp := fun vs H Q _ => ∃ p dx wv dv ds, vs = [.ref p, wv, dv] ∧ H p = some (.ins C dx []) ∧ TTI H dv ds ∧ ds.length ≤ 7 ∧ (∀ d ∈ ds, d.length ≤ 30) ∧ ∀ H' pl, Keep p H H' → H' p = some (.ins C dx (recF wv dv pl)) → Q .non H'
theorem ok_rkeep (T : Txt K mg) : FnOk P w K mg base CX0 1 (He.ma K (He.ga K "Record") "keep") (fdOf K ("Record", some "keep")) ["self", "writers", "diaries"] (sp_rkeep (He.ga K "Record")) := by
  refine okF T.t_Record_keep.fn sc_Record_keep (fun vs H Q E h => ?_) (fun cdv A outer s H vs Q E hr h => ?_)
  · obtain ⟨p, dx, wv, dv, ds, rfl, _⟩ := h; rfl
  · obtain ⟨p, dx, wv, dv, ds, rfl, hp, ⟨a, xs, rfl, ha, hx⟩, h7, h30, k⟩ := h
    have hxl : xs.length = ds.length := hx.length
    refine ⟨_, pss_cons (ps_fld (pv 0) (pv 1) rfl) (pss_cons (ps_fld (pv 0) (pv 2) rfl) (pss_one (ps_fld (pv 0)
      (pe_lc (own := [("diary", 3)]) (g := gName 3) rfl sc_Record_keep.nd (pi_tup (pv 2)) (blkOk_by (N := ["self", "writers", "diaries", "diary", "at", "put"]) (sc := defScope s_Record_keep) (by decide +kernel)) (fun _ _ _ _ _ => pg_name (i := 3) sc_Record_keep.nd rfl (Or.inl rfl)) (fun _ _ _ _ _ => pts_nil)
        (fun _ _ _ _ _ => pe_callTy (k_dictP (K := K) rfl) (by rfl) T.m_dict bt_dict (pa_cons
          (pe_lc (own := [("at", 4), ("put", 5)]) (g := gTup K 2 (gCons (gName 4) (gCons (gName 5) gNil))) rfl sc_Record_keep.nd (k_enumT (K := K) (by rfl) T.m_enumerate (pa_cons (pv 3) pa_nil))
            (blkOk_by (N := ["self", "writers", "diaries", "diary", "at", "put"]) (sc := lcSc (asgVal (body s_Record_keep 2))) (by decide +kernel))
            (fun _ _ _ _ _ => pg_tup rfl (pgs_cons (pg_name (i := 4) sc_Record_keep.nd rfl (Or.inl rfl)) (pgs_cons (pg_name (i := 5) sc_Record_keep.nd rfl (Or.inl rfl)) pgs_nil)))
            (fun _ _ _ _ _ => pts_nil) (fun _ _ _ _ _ => pe_tup (pa_cons (pv 5) (pa_cons (pv 4) pa_nil)))) pa_nil))) rfl))), ?_⟩
    refine ⟨_, rfl, _, rfl, p, _, dx, [], rfl, hp, T.C_Record.cl, T.C_Record.no "writers" (by decide +kernel), (by show 0 < 1000; decide), ?_⟩
    refine ⟨_, rfl, _, rfl, p, _, dx, _, rfl, upd_same, T.C_Record.cl, T.C_Record.no "diaries" (by decide +kernel), (by show 1 < 1000; decide), ?_⟩
    have k0 : Keep p H (upd (upd H p (.ins (He.ga K "Record") dx (putF "writers" wv []))) p (.ins (He.ga K "Record") dx (putF "diaries" (.ref a) (putF "writers" wv [])))) := keep_upd.put
    have hpa : a ≠ p := ne_of ha hp (fun z => nomatch z)
    have i0 : Im H (upd (upd H p (.ins (He.ga K "Record") dx (putF "writers" wv []))) p (.ins (He.ga K "Record") dx (putF "diaries" (.ref a) (putF "writers" wv [])))) := k0.im fun ys e => by rw [hp] at e; cases e
    generalize hH0 : (upd (upd H p (.ins (He.ga K "Record") dx (putF "writers" wv []))) p (.ins (He.ga K "Record") dx (putF "diaries" (.ref a) (putF "writers" wv [])))) = H0 at k0 i0
    have hp0 : H0 p = some (.ins (He.ga K "Record") dx (putF "diaries" (.ref a) (putF "writers" wv []))) := by rw [← hH0]; exact upd_same
    have ha0 : H0 a = some (.tup xs) := i0 _ _ ha
    have hx0 := pti_im hx i0
    refine ⟨_, rfl, a, rfl, ⟨_, SqT.of ha0⟩, fun D hD => ?_⟩
    refine lc_map walk_tup (fun _ (_ : Unit) _ => True) (fun _ => ()) hD (fun _ _ _ _ _ _ => trivial) (fun H' r => SqT.of (r _ _ ha0)) (by omega) ?_ ?_
    · rintro i x H1 _ hi r ⟨rfl, e⟩ Qt q
      obtain ⟨d, hd, b, rfl, hb⟩ := paired_get hx0 e
      have hb1 := r _ _ hb
      have hdl := h30 d (List.mem_of_getElem? hd)
      refine ⟨rfl, ?_⟩
      refine ⟨_, rfl, b, _, rfl, SqT.of hb1, fun D2 hD2 => ?_⟩
      refine lc_map walk_enumT (fun y (u : Int × Int) H => TI H y [u.1, u.2]) (fun j => (d.getD j 0, (j : Int))) hD2 (fun _ _ _ _ k h => h.im k) (fun H' r2 => SqT.of (r2 _ _ hb1)) (by rw [List.length_map]; omega) ?_ ?_
      · rintro j _ H2 _ hj r2 ⟨Tp, x1, x2, rfl, nT, rfl, e1, e2⟩ Qt2 q2
        cases Option.some.inj e1
        obtain ⟨n, hn, rfl⟩ := map_int_get e2
        refine ⟨Tp, _, rfl, SqT.of upd_same, rfl, _, _, rfl, _, _, rfl, rfl, rfl, ?_⟩
        refine ⟨_, rfl, _, rfl, by show 2 ≤ sizeLine; decide, fun t nt => q2 _ _ ((same_new nT).trans (same_new nt)) ⟨t, rfl, ?_⟩⟩
        rw [show d.getD j 0 = n by rw [List.getD_eq_getElem?_getD, hn]; rfl]
        exact upd_same
      · intro H2 ys s2 e2 pr
        obtain ⟨ps, kvs, rfl, hkv⟩ := pairs_kv (K := K) pr
        exact ⟨D2, ps, kvs, rfl, SqL.of e2, hkv, fun t nt => q _ _ (s2.trans (same_new nt)) trivial⟩
    · intro H1 ys s1 e1 _
      refine ⟨_, rfl, p, _, dx, _, rfl, s1 _ _ hp0, T.C_Record.cl, T.C_Record.no "places" (by decide +kernel), (by show 2 < 1000; decide), ?_⟩
      exact k _ (.ref D) ((k0.trans (same_keep s1)).put) upd_same
def sp_recI (C : Addr) : Sp := fun vs H Q _ => ∃ p dx wv dv ws ds, vs = [.ref p, wv, dv] ∧ H p = some (.ins C dx []) ∧ TI H wv ws ∧ TTI H dv ds ∧ RecOk ws ds ∧ ∀ H' pl, Keep p H H' → H' p = some (.ins C dx (recF wv dv pl)) → Q .non H'
theorem ok_recI (T : Txt K mg) : FnOk P w K mg base CX0 4 (He.ma K (He.ga K "Record") "__init__") (fdOf K ("Record", some "__init__")) ["self", "writers", "diaries"] (sp_recI (He.ga K "Record")) := by
  refine okF T.t_Record_init.fn sc_Record_init (fun vs H Q E h => ?_) (fun cdv A outer s H vs Q E hr h => ?_)
  · obtain ⟨p, dx, wv, dv, ws, ds, rfl, _⟩ := h; rfl
  · obtain ⟨p, dx, wv, dv, ws, ds, rfl, hp, ⟨b, rfl, hb⟩, ht, ok, k⟩ := h
    obtain ⟨a, xs, rfl, ha, hx⟩ := id ht
    have hxl : xs.length = ds.length := hx.length
    have f1 := ok.some_
    have f7 := ok.few
    have f30 := ok.puts
    refine ⟨_, pss_cons (ps_if (pt_not (pt_val (pe_d T.d_is_sized (ok_is_sized T) (hr.mono (by decide)) (pa_cons (pv 2) (pa_cons pe_int (pa_cons (pe_gi T.c_MOST_MACHINES_records) pa_nil)))))) (pss_one ps_never) pss_nil)
      (pss_cons (ps_if (pt_not (pt_val (pe_d T.d_is_sized (ok_is_sized T) (hr.mono (by decide)) (pa_cons (pv 1) (pa_cons pe_int (pa_cons (pe_gi T.c_MOST_PUTS) pa_nil)))))) (pss_one ps_never) pss_nil)
      (pss_cons (ps_for PassesOwn.never rfl (pi_enumT (by rfl) T.m_enumerate (pa_cons (pv 1) pa_nil)) (pg_tup rfl (pgs_cons (pg_name (i := 3) sc_Record_init.nd rfl (Or.inl rfl)) (pgs_cons (pg_name (i := 4) sc_Record_init.nd rfl (Or.inl rfl)) pgs_nil)))
        (pss_one (ps_if (pt_not (pt_val (pe_d T.d_is_within (ok_is_within T) (hr.mono (by decide)) (pa_cons (pv 4) (pa_cons pe_int (pa_cons (pe_op op_sub (pe_callB call_len_seq (by rfl) T.m_len PySem.boot_len (pa_cons (pv 2) pa_nil)) pe_int) pa_nil)))))) (pss_one ps_never) pss_nil)))
      (pss_cons (ps_for PassesOwn.never rfl (pi_enumT (by rfl) T.m_enumerate (pa_cons (pv 2) pa_nil)) (pg_tup rfl (pgs_cons (pg_name (i := 5) sc_Record_init.nd rfl (Or.inl rfl)) (pgs_cons (pg_name (i := 6) sc_Record_init.nd rfl (Or.inl rfl)) pgs_nil)))
        (pss_one (ps_if (pt_not (pt_val (pe_d T.d_are_unlike (ok_are_unlike T) hr (pa_cons (pv 6) (pa_cons (pe_callB call_len_seq (by rfl) T.m_len PySem.boot_len (pa_cons (pv 1) pa_nil)) pa_nil))))) (pss_one ps_never) pss_nil)))
      (pss_cons (ps_for PassesOwn.never rfl (pi_enumT (by rfl) T.m_enumerate (pa_cons (pv 1) pa_nil)) (pg_tup rfl (pgs_cons (pg_name (i := 3) sc_Record_init.nd rfl (Or.inl rfl)) (pgs_cons (pg_name (i := 4) sc_Record_init.nd rfl (Or.inl rfl)) pgs_nil)))
        (pss_one (ps_if (pt_cmpR op_notIn_seq (pv 3) (pe_ix ix_tup (pv 2) (pv 4) (fun _ _ => rfl)) rfl) (pss_one ps_never) pss_nil)))
      (pss_one (ps_expr (pe_meth (pv 0) T.C_Record.cl T.t_Record_keep.m (ok_rkeep T) (hr.mono (by decide)) T.t_Record_keep.b .nil pass0 (pa_cons (pv 1) (pa_cons (pv 2) pa_nil))))))))), ?_⟩
    refine ⟨_, rfl, _, xs, 1, 7, rfl, ha, by omega, by omega, true, rfl, iteF ?_⟩
    refine ⟨_, rfl, b, _, 0, 30, rfl, hb, by rw [List.length_map]; omega, by rw [List.length_map]; omega, true, rfl, iteF ?_⟩
    -- for put, writer in enumerate(writers)
    refine ⟨_, rfl, b, _, rfl, SqT.of hb, for_it walk_enumT (fun i σ H' => ∃ y3 y4, σ = [some (.ref p), some (.ref b), some (.ref a), y3, y4, none, none] ∧ Same H H') ⟨none, none, rfl, Same.refl _⟩ (fun i σ H' _ q => let ⟨_, _, _, r⟩ := q; SqT.of (r _ _ hb)) ?_ ?_⟩
    · rintro i _ _ H2 _ hi ⟨y3, y4, rfl, r⟩ ⟨Tp, x1, x2, rfl, nT, rfl, e1, e2⟩
      cases Option.some.inj e1
      obtain ⟨n, hn, rfl⟩ := map_int_get e2
      have r2 : Same H2 (upd H2 Tp (.tup [.int (i : Nat), .int n])) := same_new nT
      obtain ⟨n0, n1⟩ := ok.writer n (List.mem_of_getElem? hn)
      refine ⟨Tp, _, rfl, SqT.of upd_same, rfl, _, _, rfl, _, _, rfl, rfl, ?_⟩
      refine ⟨_, rfl, _, rfl, a, xs, rfl, .inr (SqT.of ((r.trans r2) _ _ ha)), _, _, rfl, rfl, n, 0, _, rfl, n0, by omega, true, rfl, iteF ?_⟩
      exact ⟨_, _, rfl, r.trans r2⟩
    rintro _ H1 ⟨y3, y4, rfl, s1⟩
    -- for machine, diary in enumerate(diaries)
    refine ⟨_, rfl, a, _, rfl, SqT.of (s1 _ _ ha), for_it walk_enumT (fun i σ H' => ∃ y5 y6, σ = [some (.ref p), some (.ref b), some (.ref a), y3, y4, y5, y6] ∧ Same H H') ⟨none, none, rfl, s1⟩ (fun i σ H' _ q => let ⟨_, _, _, r⟩ := q; SqT.of (r _ _ ha)) ?_ ?_⟩
    · rintro i _ _ H2 _ hi ⟨y5, y6, rfl, r⟩ ⟨Tp, x1, x2, rfl, nT, rfl, e1, e2⟩
      cases Option.some.inj e1
      have r2 : Same H2 (upd H2 Tp (.tup [.int (i : Nat), x2])) := same_new nT
      obtain ⟨d, hd, td⟩ := paired_get hx e2
      have hdm := List.mem_of_getElem? hd
      refine ⟨Tp, _, rfl, SqT.of upd_same, rfl, _, _, rfl, _, _, rfl, rfl, ?_⟩
      refine ⟨_, rfl, _, rfl, b, _, rfl, .inr (SqT.of ((r.trans r2) _ _ hb)), x2, d, _, rfl, td.im (same_im (r.trans r2)), fun n hn => ?_, ok.nd d hdm, by have := ok.short hdm; omega, fun H3 s3 => ⟨true, rfl, iteF ?_⟩⟩
      · have := ok.put d hdm n hn
        rw [List.length_map]; exact this
      · exact ⟨_, _, rfl, (r.trans r2).trans s3⟩
    rintro _ H2 ⟨y5, y6, rfl, s2⟩
    -- for put, writer in enumerate(writers)
    refine ⟨_, rfl, b, _, rfl, SqT.of (s2 _ _ hb), for_it walk_enumT (fun i σ H' => ∃ y3 y4, σ = [some (.ref p), some (.ref b), some (.ref a), y3, y4, y5, y6] ∧ Same H H') ⟨y3, y4, rfl, s2⟩ (fun i σ H' _ q => let ⟨_, _, _, r⟩ := q; SqT.of (r _ _ hb)) ?_ ?_⟩
    · rintro i _ _ H3 _ hi ⟨y3, y4, rfl, r⟩ ⟨Tp, x1, x2, rfl, nT, rfl, e1, e2⟩
      cases Option.some.inj e1
      obtain ⟨n, hn, rfl⟩ := map_int_get e2
      have r2 : Same H3 (upd H3 Tp (.tup [.int (i : Nat), .int n])) := same_new nT
      obtain ⟨n0, n1⟩ := ok.writer n (List.mem_of_getElem? hn)
      obtain ⟨x, rfl⟩ : ∃ x : Nat, n = (x : Int) := ⟨n.toNat, by omega⟩
      have hxx : x < xs.length := by omega
      obtain ⟨d, hd, c, ec, hc⟩ := paired_get hx (List.getElem?_eq_getElem hxx)
      have s3 := r.trans r2
      refine ⟨Tp, _, rfl, SqT.of upd_same, rfl, _, _, rfl, _, _, rfl, rfl, ?_⟩
      refine ⟨_, rfl, _, rfl, _, rfl, a, xs, _, _, rfl, rfl, SqT.of (s3 _ _ ha), atI_nat (List.getElem?_eq_getElem hxx), c, _, ec, .inr (SqT.of (s3 _ _ hc)), rfl, flat_ints d, _, rfl, ?_⟩
      refine iteN (by show (!inV (.int _) (d.map V.int)) = false; rw [inV_int, decide_eq_true (ok.own i x d hn hd)]; rfl) ?_
      exact ⟨_, _, rfl, s3⟩
    rintro _ H3 ⟨y3, y4, rfl, s3⟩
    exact ⟨_, rfl, p, dx, [], rfl, s3 _ _ hp, rfl, _, rfl, _, rfl, p, dx, _, _, ds, rfl, s3 _ _ hp, ht.im (same_im s3), f7, fun d hd => ok.short hd, fun H4 pl k4 e4 => k H4 pl ((same_keep s3).trans k4) e4⟩
def RecsEq (C : Addr) (a b : Addr) (H : Hp) : Prop := ∃ ws ds, RecAt C H (.ref a) ws ds ∧ RecAt C H (.ref b) ws ds
theorem ok_recEq (T : Txt K mg) : FnOk P w K mg base CX0 1 (He.ma K (He.ga K "Record") "__eq__") (fdOf K ("Record", some "__eq__")) ["self", "other"] (spEqB (RecsEq (He.ga K "Record"))) := by
  refine okF T.t_Record_eq.fn sc_Record_eq (fun vs H Q E h => ?_) (fun cdv A outer s H vs Q E hr h => ?_)
  · obtain ⟨a, b, rfl, _⟩ := h; rfl
  · obtain ⟨a, b, rfl, ⟨ws, ds, ⟨_, dx, wv, dv, pl, e1, q1, t1, u1⟩, ⟨_, dy, wu, du, pm, e2, q2, t2, u2⟩⟩, k⟩ := h
    cases e1
    cases e2
    refine ⟨_, pss_one (ps_ret (pe_and (pe_callB (C8.call_isC T.i_Record) (by rfl) T.m_isinstance bt_isinstance (pa_cons (pv 1) (pa_cons (pe_gcl T.C_Record.g) pa_nil)))
      (pe_and (pe_cmpR (op_eqD hr.units) (pe_fld (pv 0) rfl) (pe_fld (pv 1) rfl) (nomark _)) (pe_one (pe_cmpR (op_eqD hr.units) (pe_fld (pv 0) rfl) (pe_fld (pv 1) rfl) (nomark _)))))), ?_⟩
    refine ⟨_, rfl, b, dy, _, rfl, q2, true, rfl, iteT ?_⟩
    have nw := T.C_Record.no "writers" (by decide +kernel)
    have nd := T.C_Record.no "diaries" (by decide +kernel)
    refine ⟨_, rfl, a, _, dx, _, _, rfl, q1, T.C_Record.cl, nw, recF_w, _, rfl, b, _, dy, _, _, rfl, q2, T.C_Record.cl, nw, recF_w, dL ws, dL ws, dp_TI t1, dp_TI t2, shaped_dL ws, shaped_dL ws, _, rfl, ?_⟩
    refine iteB (SeqAt.eqv_refl _ (SeqAt.canLay_of_shaped (shaped_dL ws))) ?_
    refine ⟨_, rfl, a, _, dx, _, _, rfl, q1, T.C_Record.cl, nd, recF_d, _, rfl, b, _, dy, _, _, rfl, q2, T.C_Record.cl, nd, recF_d, dLL ds, dLL ds, dp_TTI u1, dp_TTI u2, shaped_dLL ds, shaped_dLL ds, ?_⟩
    exact bl_eqv (shaped_dLL ds) (k _ (Same.refl _))
end
end GA
/-! GaText: texts of rows of small numbers, plain. -/
namespace GA
open PySem
/-- a number's text -/
def dS (n : Int) : Str := Str.ofString (toString n)
/-- one figure -/
def Fig (n : Int) : Prop := 0 ≤ n ∧ n ≤ 9
theorem tl_dS {n : Int} (h : Fig n) : TL.tl (dS n) = [48 + n.toNat] := by
  obtain ⟨k, rfl⟩ : ∃ k : Nat, n = (k : Int) := ⟨n.toNat, by have := h.1; omega⟩
  have h9 := h.2
  rw [show TL.tl (dS (k : Int)) = TL.numL k from TL.tl_num k, TL.numL_lt (by omega)]
  rfl
theorem len_dS {n : Int} (h : Fig n) : (dS n).length = 1 := by rw [TL.len_tl, tl_dS h]; rfl
theorem int_dS {n : Int} (h : Fig n) : intText? (dS n) = some n := by
  obtain ⟨k, rfl⟩ : ∃ k : Nat, n = (k : Int) := ⟨n.toNat, by have := h.1; omega⟩
  have h9 := h.2
  exact TL.int_num (by rw [TL.numL_lt (by omega)]; show 1 ≤ 4300; decide)
def lineS (w : Str) (ns : List Int) : Str := Txt.join " " (w :: ns.map dS)
def closedS (ss : List Str) : Str := Txt.join "" (ss.map fun z => z ++ "\n")
def textS (rows : List (Str × List Int)) : Str := closedS (rows.map fun r => lineS r.1 r.2)
theorem tl_blank : TL.tl (Str.ofString " ") = [32] := by rw [TL.tl_ofString]; rfl
theorem tl_feed : TL.tl (Str.ofString "\n") = [10] := by rw [TL.tl_ofString]; rfl
theorem tl_no : TL.tl (Str.ofString "") = [] := by rw [TL.tl_ofString]; rfl
theorem mem_joinL {S : List Nat} {c : Nat} : ∀ {ps : List (List Nat)}, c ∈ TL.joinL S ps → c ∈ S ∨ ∃ p ∈ ps, c ∈ p
  | [], h => nomatch h
  | [p], h => .inr ⟨p, List.mem_singleton.mpr rfl, h⟩
  | p :: q :: r, h => by
    have h1 : c ∈ p ++ (S ++ TL.joinL S (q :: r)) := h
    rcases List.mem_append.mp h1 with h1 | h1
    · exact .inr ⟨p, List.mem_cons_self .., h1⟩
    · rcases List.mem_append.mp h1 with h1 | h1
      · exact .inl h1
      · rcases mem_joinL h1 with h2 | ⟨z, hz, hc⟩
        · exact .inl h2
        · exact .inr ⟨z, List.mem_cons_of_mem _ hz, hc⟩
theorem tl_lineS (w : Str) (ns : List Int) : TL.tl (lineS w ns) = TL.joinL [32] (TL.tl w :: (ns.map dS).map TL.tl) := by
  unfold lineS
  rw [TL.join_eq, TL.tl_join, tl_blank]; rfl
theorem no_feed {w : Str} {ns : List Int} (hw : 10 ∉ TL.tl w) (hf : ∀ n ∈ ns, Fig n) : 10 ∉ TL.tl (lineS w ns) := fun h => by
  rw [tl_lineS] at h
  rcases mem_joinL h with h | ⟨p, hp, hc⟩
  · simp at h
  · rcases List.mem_cons.mp hp with rfl | hp
    · exact hw hc
    · obtain ⟨z, hz, rfl⟩ := List.mem_map.mp hp
      obtain ⟨n, hn, rfl⟩ := List.mem_map.mp hz
      rw [tl_dS (hf n hn)] at hc
      have := List.mem_singleton.mp hc
      omega
/-- a line, split at blanks -/
theorem split_line {w : Str} {ns : List Int} (hw : 32 ∉ TL.tl w) (hf : ∀ n ∈ ns, Fig n) : Txt.split (lineS w ns) " " = w :: ns.map dS := by
  refine TL.split_join (s := 32) (S := []) tl_blank (by decide +kernel) (by simp) fun p hp => ?_
  rcases List.mem_cons.mp hp with rfl | hp
  · exact hw
  · obtain ⟨n, hn, rfl⟩ := List.mem_map.mp hp
    rw [tl_dS (hf n hn)]
    intro h
    have := List.mem_singleton.mp h
    omega
theorem joinL_nil : ∀ ps : List (List Nat), TL.joinL [] ps = ps.flatten
  | [] => rfl
  | [p] => by show p = [p].flatten; simp
  | p :: q :: r => by
    show p ++ ([] ++ TL.joinL [] (q :: r)) = _
    rw [joinL_nil (q :: r)]; rfl
theorem joinL_feed : ∀ ps : List (List Nat), TL.joinL [10] (ps ++ [[]]) = (ps.map fun p => p ++ [10]).flatten
  | [] => rfl
  | p :: r => by
    have ih := joinL_feed r
    cases r with
    | nil => show p ++ ([10] ++ []) = _; simp
    | cons q r =>
      show p ++ ([10] ++ TL.joinL [10] ((q :: r) ++ [[]])) = _
      rw [ih]; simp
theorem closedS_eq (ss : List Str) : closedS ss = Txt.join "\n" (ss ++ [Str.ofString ""]) := by
  apply TL.ext_tl
  unfold closedS
  rw [TL.join_eq, TL.join_eq, TL.tl_join, TL.tl_join, tl_no, tl_feed, joinL_nil, List.map_append, List.map_map]
  have e : List.map TL.tl [Str.ofString ""] = [[]] := by show [TL.tl (Str.ofString "")] = [[]]; rw [tl_no]
  rw [e, joinL_feed, List.map_map]
  congr 1
  apply List.map_congr_left
  intro z _
  show TL.tl (z ++ Str.ofString "\n") = TL.tl z ++ [10]
  rw [TL.tl_append, tl_feed]
/-- a text, split at line feeds -/
theorem split_closed {ss : List Str} (h : ∀ z ∈ ss, 10 ∉ TL.tl z) : Txt.split (closedS ss) "\n" = ss ++ [Str.ofString ""] := by
  rw [closedS_eq]
  refine TL.split_join (s := 10) (S := []) tl_feed (by decide +kernel) (by simp) fun p hp => ?_
  rcases List.mem_append.mp hp with hp | hp
  · exact h p hp
  · rw [List.mem_singleton.mp hp, tl_no]; simp
theorem sum_le (c : Nat) : ∀ l : List Nat, (∀ x ∈ l, x ≤ c) → l.sum ≤ l.length * c
  | [], _ => by simp
  | x :: r, h => by
    have h1 := h x (List.mem_cons_self ..)
    have h2 := sum_le c r fun y hy => h y (List.mem_cons_of_mem _ hy)
    rw [List.sum_cons, List.length_cons, Nat.succ_mul]; omega
theorem lens_dS {ns : List Int} (hf : ∀ n ∈ ns, Fig n) : ((ns.map dS).map (·.length)).sum ≤ ns.length := by
  have := sum_le 1 ((ns.map dS).map (·.length)) fun x hx => by
    obtain ⟨z, hz, rfl⟩ := List.mem_map.mp hx
    obtain ⟨n, hn, rfl⟩ := List.mem_map.mp hz
    rw [len_dS (hf n hn)]; exact Nat.le_refl _
  rw [List.length_map, List.length_map] at this; omega
theorem join_len (sep : Str) (ys : List Str) : (Txt.join sep ys).length ≤ (ys.map (·.length)).sum + ys.length * sep.length := by
  rw [TL.join_eq]; exact StrLaws.join_length_le sep ys
theorem len_blank : (Str.ofString " ").length = 1 := by rw [TL.len_tl, tl_blank]; rfl
theorem len_feed : (Str.ofString "\n").length = 1 := by rw [TL.len_tl, tl_feed]; rfl
theorem len_no : (Str.ofString "").length = 0 := by rw [TL.len_tl, tl_no]; rfl
theorem line_len {w : Str} {ns : List Int} (hf : ∀ n ∈ ns, Fig n) (hw : w.length ≤ 100) (hn : ns.length ≤ 1000) : (lineS w ns).length ≤ 3000 := by
  have h1 := join_len " " (w :: ns.map dS)
  have h2 := lens_dS hf
  rw [List.map_cons, List.sum_cons, len_blank, List.length_cons, List.length_map] at h1
  unfold lineS
  omega
theorem closed_len {ss : List Str} (h : ∀ z ∈ ss, z.length ≤ 3000) (hn : ss.length ≤ 1000) : (closedS ss).length ≤ 3001000 ∧ ((ss.map fun z => z ++ Str.ofString "\n").map (·.length)).sum + (ss.map fun z => z ++ Str.ofString "\n").length * (Str.ofString "").length ≤ 16777216 := by
  have h1 := join_len "" (ss.map fun z => z ++ Str.ofString "\n")
  have h2 := sum_le 3001 ((ss.map fun z => z ++ Str.ofString "\n").map (·.length)) fun x hx => by
    obtain ⟨y, hy, rfl⟩ := List.mem_map.mp hx
    obtain ⟨z, hz, rfl⟩ := List.mem_map.mp hy
    have := h z hz
    show (z ++ Str.ofString "\n").length ≤ 3001
    rw [Str.length_append, len_feed]; omega
  rw [List.length_map, List.length_map] at h2
  have h3 : ss.length * 3001 ≤ 1000 * 3001 := Nat.mul_le_mul_right _ hn
  rw [len_no, List.length_map] at h1
  rw [len_no, List.length_map]
  unfold closedS
  constructor
  · have e : (Txt.join "" (ss.map fun z => z ++ "\n")).length ≤ _ := h1
    omega
  · omega
end GA
/-! GaTexts: closed, told, web_text, record_text, hall_text, _law_lines. -/
namespace GA
open PySem PySem.Spec PyProof.Rows L2
theorem fig_log {n : Int} (h : Fig n) : n.natAbs.log2 < 1920 := by
  have h1 : n.natAbs ≤ 9 := by have := h.1; have := h.2; omega
  have h2 := Nat.log2_le_self n.natAbs
  omega
theorem map_get {α β : Type} {f : α → β} {xs : List α} {i : Nat} {y : β} (h : (xs.map f)[i]? = some y) : ∃ x, xs[i]? = some x ∧ f x = y := by
  rw [List.getElem?_map] at h
  cases e : xs[i]? with
  | none => rw [e] at h; cases h
  | some x => rw [e] at h; exact ⟨x, rfl, Option.some.inj h⟩
theorem getD_of {α : Type} {xs : List α} {i : Nat} {x d : α} (h : xs[i]? = some x) : xs.getD i d = x := by
  rw [List.getD_eq_getElem?_getD, h]; rfl
def webRows (m : Int) (ls : List (List Int)) : List (Str × List Int) := (Str.ofString "machines", [m]) :: ls.map fun l => (Str.ofString "wire", l)
def recRows (ws : List Int) (ds : List (List Int)) : List (Str × List Int) := (Str.ofString "writers", ws) :: ds.map fun l => (Str.ofString "diary", l)
def hallRows (ls : List (List Int)) (ps : List Int) : List (Str × List Int) := (Str.ofString "places", ps) :: ls.map fun l => (Str.ofString "link", l)
/-- rows of a short word and some figures -/
structure RowOk (r : Str × List Int) : Prop where
  w : r.1.length ≤ 100
  fig : ∀ n ∈ r.2, Fig n
  len : r.2.length ≤ 1000
section
variable {P : Program} {w : World} {K : PySem.W.Frag} {mg : Str → Option Value} {base : Heap}
def sp_closed : Sp := fun vs H Q _ => ∃ l, ∃ ss : List Str, vs = [.ref l] ∧ H l = some (.lst (ss.map V.str)) ∧ (∀ z ∈ ss, z.length ≤ 3000) ∧ ss.length ≤ 1000 ∧ ∀ H', Same H H' → Q (.str (closedS ss)) H'
theorem ok_closed (T : Txt K mg) : FnOk P w K mg base CX0 1 (He.ga K "closed") (fdOf K ("closed", none)) ["lines"] sp_closed := by
  refine okF T.d_closed.fn sc_closed (fun vs H Q E h => ?_) (fun cdv A outer s H vs Q E hr h => ?_)
  · obtain ⟨l, ss, rfl, _⟩ := h; rfl
  · obtain ⟨l, ss, rfl, hl, hz, hn, k⟩ := h
    refine ⟨_, pss_one (ps_ret (pe_join pe_str (pe_lc (own := [("line", 1)]) (g := gName 1) rfl sc_closed.nd (pi_list (pv 0)) (blkOk_by (N := ["lines", "line"]) (sc := defScope s_closed) (by decide +kernel))
      (fun _ _ _ _ _ => pg_name (i := 1) sc_closed.nd rfl (Or.inl rfl)) (fun _ _ _ _ _ => pts_nil) (fun _ _ _ _ _ => pe_op op_add_str (pv 1) pe_str)))), ?_⟩
    refine ⟨⟨_, rfl⟩, _, rfl, l, rfl, ⟨_, SqL.of hl⟩, fun D hD => ?_⟩
    refine lc_map walk_list (fun y (d : Str) _ => y = V.str d) (fun i => (ss.getD i Str.empty) ++ Str.ofString "\n") hD (fun _ _ _ _ _ h => h) (fun H' r => SqL.of (r _ _ hl)) (by rw [List.length_map]; omega) ?_ ?_
    · rintro i x H1 _ hi r ⟨rfl, e⟩ Qt q
      obtain ⟨z, hz1, rfl⟩ := map_get e
      have := hz z (List.mem_of_getElem? hz1)
      refine ⟨rfl, _, rfl, z, _, rfl, rfl, size_ok (by rw [len_feed]; omega), q _ _ (Same.refl _) ?_⟩
      rw [getD_of hz1]
    · intro H' ys r e p
      have ey := paired_map p
      subst ey
      rw [List.length_map, range_map_getF Str.empty ss (fun z => z ++ Str.ofString "\n")] at e
      exact ⟨_, D, _, rfl, rfl, .inl (SqL.of e), (closed_len hz hn).2, k H' r⟩
def sp_told : Sp := fun vs H Q _ => ∃ z nv ns, vs = [.str z, nv] ∧ TI H nv ns ∧ RowOk (z, ns) ∧ ∀ H', Same H H' → Q (.str (lineS z ns)) H'
theorem line_fit {z : Str} {ns : List Int} (ok : RowOk (z, ns)) : ((z :: ns.map dS).map (·.length)).sum + (z :: ns.map dS).length * (Str.ofString " ").length ≤ 16777216 := by
  have h2 := lens_dS ok.fig
  have h3 := ok.w
  have h4 := ok.len
  simp only at h2 h3 h4
  rw [List.map_cons, List.sum_cons, len_blank, List.length_cons, List.length_map]
  omega
theorem ok_told (T : Txt K mg) : FnOk P w K mg base CX0 1 (He.ga K "told") (fdOf K ("told", none)) ["word", "numbers"] sp_told := by
  refine okF T.d_told.fn sc_told (fun vs H Q E h => ?_) (fun cdv A outer s H vs Q E hr h => ?_)
  · obtain ⟨z, nv, ns, rfl, _⟩ := h; rfl
  · obtain ⟨z, nv, ns, rfl, ⟨a, rfl, ha⟩, ok, k⟩ := h
    refine ⟨_, pss_one (ps_ret (pe_join pe_str (pe_op op_cat (pe_lst (pa_cons (pv 0) pa_nil)) (pe_lc (own := [("number", 2)]) (g := gName 2) rfl sc_told.nd (pi_tup (pv 1)) (blkOk_by (N := ["word", "numbers", "number"]) (sc := defScope s_told) (by decide +kernel))
      (fun _ _ _ _ _ => pg_name (i := 2) sc_told.nd rfl (Or.inl rfl)) (fun _ _ _ _ _ => pts_nil) (fun _ _ _ _ _ => pe_callTy call_str_int (by rfl) T.m_str bt_str (pa_cons (pv 2) pa_nil)))))), ?_⟩
    have hn := ok.len
    simp only at hn
    refine ⟨⟨_, rfl⟩, _, rfl, by show 1 ≤ sizeLine; decide, fun l nl => ?_⟩
    have s1 : Same H (upd H l (.lst [.str z])) := same_new nl
    refine ⟨_, rfl, a, rfl, ⟨_, SqT.of (s1 _ _ ha)⟩, fun D hD => ?_⟩
    refine lc_map walk_tup (fun y (d : Str) _ => y = V.str d) (fun i => dS (ns.getD i 0)) hD (fun _ _ _ _ _ h => h) (fun H' r => SqT.of (r _ _ (s1 _ _ ha))) (by rw [List.length_map]; omega) ?_ ?_
    · rintro i x H1 _ hi r ⟨rfl, e⟩ Qt q
      obtain ⟨n, hn1, rfl⟩ := map_int_get e
      refine ⟨rfl, _, rfl, n, rfl, fig_log (ok.fig n (List.mem_of_getElem? hn1)), q _ _ (Same.refl _) ?_⟩
      rw [getD_of hn1]; rfl
    · intro H2 ys r e p
      have ey := paired_map p
      subst ey
      rw [List.length_map, range_map_getF (0 : Int) ns dS] at e
      have e1 : H2 l = some (.lst [.str z]) := r _ _ upd_same
      refine ⟨l, D, _, _, rfl, rfl, e1, e, size_ok (by rw [List.length_map, List.length_map]; show 1 + ns.length ≤ 100000; omega), fun q nq => ?_⟩
      exact ⟨_, q, z :: ns.map dS, rfl, rfl, .inl (SqL.of upd_same), line_fit ok, k _ ((s1.trans r).trans (same_new nq))⟩
/-- a text def over an object: the first row, then a row for each of a tuple's tuples -/
theorem rows_len {rows : List (Str × List Int)} (h : ∀ r ∈ rows, RowOk r) : ∀ z ∈ rows.map (fun r => lineS r.1 r.2), z.length ≤ 3000 := fun z hz => by
  obtain ⟨r, hr, rfl⟩ := List.mem_map.mp hz
  exact line_len (h r hr).fig (h r hr).w (h r hr).len
/-- what a web's numbers are -/
structure WebFig (m : Int) (ls : List (List Int)) : Prop where
  m : Fig m
  fig : ∀ l ∈ ls, ∀ n ∈ l, Fig n
  two : ∀ l ∈ ls, l.length ≤ 1000
  len : ls.length ≤ 900
theorem rows_ok {w0 w1 : Str} {a : List Int} {ls : List (List Int)} (h0 : w0.length ≤ 100) (h1 : w1.length ≤ 100) (fa : ∀ n ∈ a, Fig n) (la : a.length ≤ 1000) (fl : ∀ l ∈ ls, ∀ n ∈ l, Fig n) (ll : ∀ l ∈ ls, l.length ≤ 1000) :
    ∀ r ∈ (w0, a) :: ls.map (fun l => (w1, l)), RowOk r := fun r hr => by
  rcases List.mem_cons.mp hr with rfl | hr
  · exact ⟨h0, fa, la⟩
  · obtain ⟨l, hl, rfl⟩ := List.mem_map.mp hr
    exact ⟨h1, fl l hl, ll l hl⟩
theorem w_machines : (Str.ofString "machines").length ≤ 100 := by decide +kernel
theorem w_wire : (Str.ofString "wire").length ≤ 100 := by decide +kernel
theorem w_writers : (Str.ofString "writers").length ≤ 100 := by decide +kernel
theorem w_diary : (Str.ofString "diary").length ≤ 100 := by decide +kernel
theorem w_places : (Str.ofString "places").length ≤ 100 := by decide +kernel
theorem w_link : (Str.ofString "link").length ≤ 100 := by decide +kernel
def sp_web_text (C : Addr) : Sp := fun vs H Q _ => ∃ v m ls, vs = [v] ∧ WebAt C H v m ls ∧ WebFig m ls ∧ ∀ H', Same H H' → Q (.str (textS (webRows m ls))) H'
theorem ok_web_text (T : Txt K mg) : FnOk P w K mg base CX0 2 (He.ga K "web_text") (fdOf K ("web_text", none)) ["web"] (sp_web_text (He.ga K "Web")) := by
  refine okF T.d_web_text.fn sc_web_text (fun vs H Q E h => ?_) (fun cdv A outer s H vs Q E hr h => ?_)
  · obtain ⟨v, m, ls, rfl, _⟩ := h; rfl
  · obtain ⟨v, m, ls, rfl, ⟨p, dx, wv, rfl, hp, ⟨a, xs, rfl, ha, hx⟩⟩, ok, k⟩ := h
    have hxl : xs.length = ls.length := hx.length
    have hlen := ok.len
    refine ⟨_, pss_one (ps_ret (pe_d T.d_closed (ok_closed T) hr (pa_cons (pe_op op_cat (pe_lst (pa_cons (pe_d T.d_told (ok_told T) hr (pa_cons pe_str (pa_cons (pe_tup (pa_cons (pe_fld (pv 0) rfl) pa_nil)) pa_nil))) pa_nil))
      (pe_lc (own := [("wire", 1)]) (g := gName 1) rfl sc_web_text.nd (pi_tup (pe_fld (pv 0) rfl)) (blkOk_by (N := ["web", "wire"]) (sc := defScope s_web_text) (by decide +kernel))
        (fun _ _ _ _ _ => pg_name (i := 1) sc_web_text.nd rfl (Or.inl rfl)) (fun _ _ _ _ _ => pts_nil) (fun _ _ _ _ _ => pe_d T.d_told (ok_told T) hr (pa_cons pe_str (pa_cons (pv 1) pa_nil))))) pa_nil))), ?_⟩
    have nm := T.C_Web.no "machines" (by decide +kernel)
    have nw := T.C_Web.no "wires" (by decide +kernel)
    have hro := rows_ok (w0 := Str.ofString "machines") (w1 := Str.ofString "wire") (a := [m]) (ls := ls) w_machines w_wire (fun n hn => by rw [List.mem_singleton.mp hn]; exact ok.m) (by show 1 ≤ 1000; decide) ok.fig ok.two
    refine ⟨_, rfl, p, _, dx, _, _, rfl, hp, T.C_Web.cl, nm, webF_m, by show 1 ≤ sizeLine; decide, fun t nt => ?_⟩
    have s1 : Same H (upd H t (.tup [.int m])) := same_new nt
    refine ⟨_, _, [m], rfl, ⟨t, rfl, upd_same⟩, hro _ (List.mem_cons_self ..), fun H1 s2 => ⟨by show 1 ≤ sizeLine; decide, fun l nl => ?_⟩⟩
    have s3 : Same H (upd H1 l (.lst [.str (lineS (Str.ofString "machines") [m])])) := (s1.trans s2).trans (same_new nl)
    refine ⟨_, rfl, p, _, dx, _, _, rfl, s3 _ _ hp, T.C_Web.cl, nw, webF_w, a, rfl, ⟨_, SqT.of (s3 _ _ ha)⟩, fun D hD => ?_⟩
    refine lc_map walk_tup (fun y (d : Str) _ => y = V.str d) (fun i => lineS (Str.ofString "wire") (ls.getD i [])) hD (fun _ _ _ _ _ h => h) (fun H' r => SqT.of (r _ _ (s3 _ _ ha))) (by omega) ?_ ?_
    · rintro i x H2 _ hi r ⟨rfl, e⟩ Qt q
      obtain ⟨q1, hq1, tq⟩ := paired_get hx e
      refine ⟨rfl, _, rfl, _, _, q1, rfl, tq.im (same_im (s3.trans r)), hro _ (List.mem_cons_of_mem _ (List.mem_map_of_mem (List.mem_of_getElem? hq1))), fun H3 s4 => q _ _ s4 ?_⟩
      rw [getD_of hq1]
    · intro H2 ys r e pr
      have ey := paired_map pr
      subst ey
      rw [hxl, range_map_getF ([] : List Int) ls (lineS (Str.ofString "wire"))] at e
      have e1 : H2 l = some (.lst [.str (lineS (Str.ofString "machines") [m])]) := r _ _ upd_same
      refine ⟨l, D, _, _, rfl, rfl, e1, e, size_ok (by rw [List.length_map, List.length_map]; show 1 + ls.length ≤ 100000; omega), fun q nq => ?_⟩
      have er : (webRows m ls).map (fun r => lineS r.1 r.2) = lineS (Str.ofString "machines") [m] :: ls.map (lineS (Str.ofString "wire")) := by
        unfold webRows
        rw [List.map_cons, List.map_map]; rfl
      refine ⟨q, (webRows m ls).map (fun r : Str × List Int => lineS r.1 r.2), rfl, by rw [er]; exact upd_same, rows_len hro, by rw [er, List.length_cons, List.length_map]; omega, fun H4 s5 => k _ ((s3.trans r).trans ((same_new nq).trans s5))⟩
def sp_record_text (C : Addr) : Sp := fun vs H Q _ => ∃ v ws ds, vs = [v] ∧ RecAt C H v ws ds ∧ (∀ n ∈ ws, Fig n) ∧ ws.length ≤ 1000 ∧ (∀ l ∈ ds, ∀ n ∈ l, Fig n) ∧ (∀ l ∈ ds, l.length ≤ 1000) ∧ ds.length ≤ 900 ∧ ∀ H', Same H H' → Q (.str (textS (recRows ws ds))) H'
theorem ok_record_text (T : Txt K mg) : FnOk P w K mg base CX0 2 (He.ga K "record_text") (fdOf K ("record_text", none)) ["record"] (sp_record_text (He.ga K "Record")) := by
  refine okF T.d_record_text.fn sc_record_text (fun vs H Q E h => ?_) (fun cdv A outer s H vs Q E hr h => ?_)
  · obtain ⟨v, ws, ds, rfl, _⟩ := h; rfl
  · obtain ⟨v, ws, ds, rfl, ⟨p, dx, wv, dv, pl, rfl, hp, tw, ⟨a, xs, rfl, ha, hx⟩⟩, fw, lw, fd, ld, hlen, k⟩ := h
    have hxl : xs.length = ds.length := hx.length
    refine ⟨_, pss_one (ps_ret (pe_d T.d_closed (ok_closed T) hr (pa_cons (pe_op op_cat (pe_lst (pa_cons (pe_d T.d_told (ok_told T) hr (pa_cons pe_str (pa_cons (pe_fld (pv 0) rfl) pa_nil))) pa_nil))
      (pe_lc (own := [("diary", 1)]) (g := gName 1) rfl sc_record_text.nd (pi_tup (pe_fld (pv 0) rfl)) (blkOk_by (N := ["record", "diary"]) (sc := defScope s_record_text) (by decide +kernel))
        (fun _ _ _ _ _ => pg_name (i := 1) sc_record_text.nd rfl (Or.inl rfl)) (fun _ _ _ _ _ => pts_nil) (fun _ _ _ _ _ => pe_d T.d_told (ok_told T) hr (pa_cons pe_str (pa_cons (pv 1) pa_nil))))) pa_nil))), ?_⟩
    have nm := T.C_Record.no "writers" (by decide +kernel)
    have nw := T.C_Record.no "diaries" (by decide +kernel)
    have hro := rows_ok (w0 := Str.ofString "writers") (w1 := Str.ofString "diary") (a := ws) (ls := ds) w_writers w_diary fw lw fd ld
    refine ⟨_, rfl, p, _, dx, _, _, rfl, hp, T.C_Record.cl, nm, recF_w, _, _, ws, rfl, tw, hro _ (List.mem_cons_self ..), fun H1 s1 => ⟨by show 1 ≤ sizeLine; decide, fun l nl => ?_⟩⟩
    have s3 : Same H (upd H1 l (.lst [.str (lineS (Str.ofString "writers") ws)])) := s1.trans (same_new nl)
    refine ⟨_, rfl, p, _, dx, _, _, rfl, s3 _ _ hp, T.C_Record.cl, nw, recF_d, a, rfl, ⟨_, SqT.of (s3 _ _ ha)⟩, fun D hD => ?_⟩
    refine lc_map walk_tup (fun y (d : Str) _ => y = V.str d) (fun i => lineS (Str.ofString "diary") (ds.getD i [])) hD (fun _ _ _ _ _ h => h) (fun H' r => SqT.of (r _ _ (s3 _ _ ha))) (by omega) ?_ ?_
    · rintro i x H2 _ hi r ⟨rfl, e⟩ Qt q
      obtain ⟨q1, hq1, tq⟩ := paired_get hx e
      refine ⟨rfl, _, rfl, _, _, q1, rfl, tq.im (same_im (s3.trans r)), hro _ (List.mem_cons_of_mem _ (List.mem_map_of_mem (List.mem_of_getElem? hq1))), fun H3 s4 => q _ _ s4 ?_⟩
      rw [getD_of hq1]
    · intro H2 ys r e pr
      have ey := paired_map pr
      subst ey
      rw [hxl, range_map_getF ([] : List Int) ds (lineS (Str.ofString "diary"))] at e
      have e1 : H2 l = some (.lst [.str (lineS (Str.ofString "writers") ws)]) := r _ _ upd_same
      refine ⟨l, D, _, _, rfl, rfl, e1, e, size_ok (by rw [List.length_map, List.length_map]; show 1 + ds.length ≤ 100000; omega), fun q nq => ?_⟩
      have er : (recRows ws ds).map (fun r => lineS r.1 r.2) = lineS (Str.ofString "writers") ws :: ds.map (lineS (Str.ofString "diary")) := by
        unfold recRows
        rw [List.map_cons, List.map_map]; rfl
      refine ⟨q, (recRows ws ds).map (fun r : Str × List Int => lineS r.1 r.2), rfl, by rw [er]; exact upd_same, rows_len hro, by rw [er, List.length_cons, List.length_map]; omega, fun H4 s5 => k _ ((s3.trans r).trans ((same_new nq).trans s5))⟩
def sp_hall_text (C : Addr) : Sp := fun vs H Q _ => ∃ v ls ps, vs = [v] ∧ HallAt C H v ls ps ∧ (∀ n ∈ ps, Fig n) ∧ ps.length ≤ 1000 ∧ (∀ l ∈ ls, ∀ n ∈ l, Fig n) ∧ (∀ l ∈ ls, l.length ≤ 1000) ∧ ls.length ≤ 900 ∧ ∀ H', Same H H' → Q (.str (textS (hallRows ls ps))) H'
theorem ok_hall_text (T : Txt K mg) : FnOk P w K mg base CX0 2 (He.ga K "hall_text") (fdOf K ("hall_text", none)) ["hall"] (sp_hall_text (He.ga K "Hall")) := by
  refine okF T.d_hall_text.fn sc_hall_text (fun vs H Q E h => ?_) (fun cdv A outer s H vs Q E hr h => ?_)
  · obtain ⟨v, ls, ps, rfl, _⟩ := h; rfl
  · obtain ⟨v, ls, ps, rfl, ⟨p, dx, lv, pv', rfl, hp, ⟨a, xs, rfl, ha, hx⟩, tp⟩, fw, lw, fd, ld, hlen, k⟩ := h
    have hxl : xs.length = ls.length := hx.length
    refine ⟨_, pss_one (ps_ret (pe_d T.d_closed (ok_closed T) hr (pa_cons (pe_op op_cat (pe_lst (pa_cons (pe_d T.d_told (ok_told T) hr (pa_cons pe_str (pa_cons (pe_fld (pv 0) rfl) pa_nil))) pa_nil))
      (pe_lc (own := [("link", 1)]) (g := gName 1) rfl sc_hall_text.nd (pi_tup (pe_fld (pv 0) rfl)) (blkOk_by (N := ["hall", "link"]) (sc := defScope s_hall_text) (by decide +kernel))
        (fun _ _ _ _ _ => pg_name (i := 1) sc_hall_text.nd rfl (Or.inl rfl)) (fun _ _ _ _ _ => pts_nil) (fun _ _ _ _ _ => pe_d T.d_told (ok_told T) hr (pa_cons pe_str (pa_cons (pv 1) pa_nil))))) pa_nil))), ?_⟩
    have nm := T.C_Hall.no "places" (by decide +kernel)
    have nw := T.C_Hall.no "links" (by decide +kernel)
    have hro := rows_ok (w0 := Str.ofString "places") (w1 := Str.ofString "link") (a := ps) (ls := ls) w_places w_link fw lw fd ld
    refine ⟨_, rfl, p, _, dx, _, _, rfl, hp, T.C_Hall.cl, nm, hallF_p, _, _, ps, rfl, tp, hro _ (List.mem_cons_self ..), fun H1 s1 => ⟨by show 1 ≤ sizeLine; decide, fun l nl => ?_⟩⟩
    have s3 : Same H (upd H1 l (.lst [.str (lineS (Str.ofString "places") ps)])) := s1.trans (same_new nl)
    refine ⟨_, rfl, p, _, dx, _, _, rfl, s3 _ _ hp, T.C_Hall.cl, nw, hallF_l, a, rfl, ⟨_, SqT.of (s3 _ _ ha)⟩, fun D hD => ?_⟩
    refine lc_map walk_tup (fun y (d : Str) _ => y = V.str d) (fun i => lineS (Str.ofString "link") (ls.getD i [])) hD (fun _ _ _ _ _ h => h) (fun H' r => SqT.of (r _ _ (s3 _ _ ha))) (by omega) ?_ ?_
    · rintro i x H2 _ hi r ⟨rfl, e⟩ Qt q
      obtain ⟨q1, hq1, tq⟩ := paired_get hx e
      refine ⟨rfl, _, rfl, _, _, q1, rfl, tq.im (same_im (s3.trans r)), hro _ (List.mem_cons_of_mem _ (List.mem_map_of_mem (List.mem_of_getElem? hq1))), fun H3 s4 => q _ _ s4 ?_⟩
      rw [getD_of hq1]
    · intro H2 ys r e pr
      have ey := paired_map pr
      subst ey
      rw [hxl, range_map_getF ([] : List Int) ls (lineS (Str.ofString "link"))] at e
      have e1 : H2 l = some (.lst [.str (lineS (Str.ofString "places") ps)]) := r _ _ upd_same
      refine ⟨l, D, _, _, rfl, rfl, e1, e, size_ok (by rw [List.length_map, List.length_map]; show 1 + ls.length ≤ 100000; omega), fun q nq => ?_⟩
      have er : (hallRows ls ps).map (fun r => lineS r.1 r.2) = lineS (Str.ofString "places") ps :: ls.map (lineS (Str.ofString "link")) := by
        unfold hallRows
        rw [List.map_cons, List.map_map]; rfl
      refine ⟨q, (hallRows ls ps).map (fun r : Str × List Int => lineS r.1 r.2), rfl, by rw [er]; exact upd_same, rows_len hro, by rw [er, List.length_cons, List.length_map]; omega, fun H4 s5 => k _ ((s3.trans r).trans ((same_new nq).trans s5))⟩
end
end GA
/-! GaReads: _law_lines, number_in, numbers_in, lines_of, check_end, parts_in. -/
namespace GA
open PySem PySem.Spec PyProof.Rows L2
theorem k_piT {X : Cx} {K : PySem.W.Frag} {tg l : Expr} {tl : TE} (hl : PE X l tl) (e : X.K = K := by rfl) : PI X tg l (iTup K tl) := by subst e; exact pi_tup hl
theorem k_piL {X : Cx} {K : PySem.W.Frag} {tg l : Expr} {tl : TE} (hl : PE X l tl) (e : X.K = K := by rfl) : PI X tg l (iList K tl) := by subst e; exact pi_list hl
def retVal (s : Stmt) : Expr := match s with
  | .Return (some e) _ => e
  | _ => .Constant .none 0 ⟨0, 0, 0, 0⟩
def argOf (e : Expr) (i : Nat) : Expr := match e with
  | .Call _ args _ _ => args.getD i (.Constant .none 0 ⟨0, 0, 0, 0⟩)
  | _ => .Constant .none 0 ⟨0, 0, 0, 0⟩
/-- a row as a tuple: its word, its numbers -/
def RowV (H : Hp) (v : V) (r : Str × List Int) : Prop := ∃ a, v = .ref a ∧ H a = some (.tup (V.str r.1 :: r.2.map V.int))
theorem RowV.im {H H' : Hp} {v : V} {r : Str × List Int} (h : RowV H v r) (k : Im H H') : RowV H' v r := let ⟨a, e, q⟩ := h; ⟨a, e, k _ _ q⟩
theorem inV_non : ∀ ns : List Int, inV .non (ns.map V.int) = false
  | [] => rfl
  | n :: r => by
    show (eqV (.int n) .non || inV .non (r.map V.int)) = false
    rw [inV_non r]; rfl
theorem cut_tail (x : V) (r : List V) : cutV (x :: r) (some 1) none = r := by
  unfold cutV
  rw [show HT.sIx (x :: r).length 0 (some 1) = min 1 (x :: r).length from HT.sIx_nat (x :: r).length 0 1, HT.sIx_none]
  rw [show min 1 (x :: r).length = 1 by rw [List.length_cons]; omega]
  show List.take ((x :: r).length - 1) r = r
  exact List.take_of_length_le (by rw [List.length_cons]; omega)
theorem cut_init (xs : List V) (x : V) : cutV (xs ++ [x]) none (some (-1)) = xs := by
  unfold cutV
  rw [HT.sIx_none, List.drop_zero]
  have e : HT.sIx (xs ++ [x]).length (xs ++ [x]).length (some (-1)) = xs.length := by
    show (if (-1 : Int) < 0 then ((-1 : Int) + ((xs ++ [x]).length : Int)).toNat else min (-1 : Int).toNat (xs ++ [x]).length) = _
    rw [if_pos (by decide), List.length_append]
    show ((-1 : Int) + ((xs.length + 1 : Nat) : Int)).toNat = xs.length
    omega
  rw [e, Nat.sub_zero, List.take_left]
theorem S_of_tl {z : Str} {c : Nat} (h : TL.tl z = [c]) : z = ⟨#[c]⟩ := TL.ext_tl (by rw [h]; try rfl)
theorem tl_digits : TL.tl (Str.ofString "0123456789") = [48, 49, 50, 51, 52, 53, 54, 55, 56, 57] := by rw [TL.tl_ofString]; decide +kernel
theorem tl_zero : TL.tl (Str.ofString "0") = [48] := by rw [TL.tl_ofString]; rfl
theorem pe_gs {X : Cx} {x z : Str} {pos : Pos} (h : ∃ t, X.mg x = some (.str z t)) (hg : Gl X x := by rfl) (hd : (x == ("__debug__" : Str)) = false := by decide) : PE X (.Name x pos) (tC (.str z)) := by
  obtain ⟨t, hm⟩ := h
  exact pe_glob hg hm (show RelV (.str z) (.str z t) from ⟨t, rfl⟩) hd
section
variable {P : Program} {w : World} {K : PySem.W.Frag} {mg : Str → Option Value} {base : Heap}
def sp_law_lines : Sp := fun vs H Q _ => ∃ l xs rows, vs = [.ref l] ∧ H l = some (.lst xs) ∧ Paired (RowV H) xs rows ∧ (∀ r ∈ rows, RowOk r) ∧ rows.length ≤ 1000 ∧ ∀ H', Same H H' → Q (.str (textS rows)) H'
theorem ok_law_lines (T : Txt K mg) : FnOk P w K mg base CX0 1 (He.ga K "_law_lines") (fdOf K ("_law_lines", none)) ["_law_rows"] sp_law_lines := by
  refine okF T.d_law_lines.fn sc_law_lines (fun vs H Q E h => ?_) (fun cdv A outer s H vs Q E hr h => ?_)
  · obtain ⟨l, xs, rows, rfl, _⟩ := h; rfl
  · obtain ⟨l, xs, rows, rfl, hl, hx, ok, hn, k⟩ := h
    have hxl : xs.length = rows.length := hx.length
    refine ⟨_, pss_one (ps_ret (pe_join pe_str (pe_lc (own := [("_law_row", 1)]) (g := gName 1) rfl sc_law_lines.nd (pi_list (pv 0)) (blkOk_by (N := ["_law_rows", "_law_row", "_law_word"]) (sc := defScope s_law_lines) (by decide +kernel))
      (fun _ _ _ _ _ => pg_name (i := 1) sc_law_lines.nd rfl (Or.inl rfl)) (fun _ _ _ _ _ => pts_nil)
      (fun _ _ _ _ _ => pe_op op_add_str (pe_m1 PySem.F.slot_str_join PySem.F.type_str_join (k_join (K := K)) pe_str
        (pe_lc (own := [("_law_word", 2)]) (g := gName 2) rfl sc_law_lines.nd (k_piT (K := K) (pv 1)) (blkOk_by (N := ["_law_rows", "_law_row", "_law_word"]) (sc := lcSc (argOf (retVal (body s_law_lines 0)) 0)) (by decide +kernel))
          (fun _ _ _ _ _ => pg_name (i := 2) sc_law_lines.nd rfl (Or.inl rfl)) (fun _ _ _ _ _ => pts_nil) (fun _ _ _ _ _ => pe_callTy (CallR.or call_str_int SkE.call_str_str) (by rfl) T.m_str bt_str (pa_cons (pv 2) pa_nil)))) pe_str)))), ?_⟩
    refine ⟨⟨_, rfl⟩, _, rfl, l, rfl, ⟨_, SqL.of hl⟩, fun D hD => ?_⟩
    refine lc_map walk_list (fun y (d : Str) _ => y = V.str d) (fun i => (fun r : Str × List Int => lineS r.1 r.2 ++ Str.ofString "\n") (rows.getD i (Str.empty, []))) hD (fun _ _ _ _ _ h => h) (fun H' r => SqL.of (r _ _ hl)) (by omega) ?_ ?_
    · rintro i x H1 _ hi r ⟨rfl, e⟩ Qt q
      obtain ⟨rw0, hrw, a, rfl, ha⟩ := paired_get hx e
      have okr := ok rw0 (List.mem_of_getElem? hrw)
      have hrl := okr.len
      have ha1 := r _ _ ha
      refine ⟨rfl, ⟨_, rfl⟩, _, rfl, a, rfl, ⟨_, SqT.of ha1⟩, fun D2 hD2 => ?_⟩
      refine lc_map walk_tup (fun y (d : Str) _ => y = V.str d) (fun j => (rw0.1 :: rw0.2.map dS).getD j Str.empty) hD2 (fun _ _ _ _ _ h => h) (fun H' r2 => SqT.of (r2 _ _ ha1)) (by rw [List.length_cons, List.length_map]; omega) ?_ ?_
      · rintro j y H2 _ hj r2 ⟨rfl, e2⟩ Qt2 q2
        refine ⟨rfl, _, rfl, ?_⟩
        cases j with
        | zero =>
          have e3 : V.str rw0.1 = y := Option.some.inj e2
          subst e3
          exact .inr ⟨_, rfl, q2 _ _ (Same.refl _) rfl⟩
        | succ j =>
          have e3 : (rw0.2.map V.int)[j]? = some y := e2
          obtain ⟨n, hn1, rfl⟩ := map_int_get e3
          refine .inl ⟨n, rfl, fig_log (okr.fig n (List.mem_of_getElem? hn1)), q2 _ _ (Same.refl _) ?_⟩
          have e4 : (rw0.1 :: rw0.2.map dS)[j + 1]? = some (dS n) := by show (rw0.2.map dS)[j]? = _; rw [List.getElem?_map, hn1]; rfl
          rw [getD_of e4]; rfl
      · intro H2 ys r2 e2 p2
        have ey := paired_map p2
        subst ey
        have el : (V.str rw0.1 :: rw0.2.map V.int).length = (rw0.1 :: rw0.2.map dS).length := by rw [List.length_cons, List.length_cons, List.length_map, List.length_map]
        rw [el, range_map_get Str.empty (rw0.1 :: rw0.2.map dS)] at e2
        refine ⟨_, D2, _, rfl, rfl, .inl (SqL.of e2), line_fit (z := rw0.1) (ns := rw0.2) okr, ?_⟩
        have h3 := line_len okr.fig okr.w okr.len
        refine ⟨_, _, rfl, rfl, size_ok (by rw [len_feed]; show (lineS rw0.1 rw0.2).length + 1 ≤ 100000; omega), q _ _ r2 ?_⟩
        rw [getD_of hrw]; rfl
    · intro H1 ys r e p
      have ey := paired_map p
      subst ey
      rw [hxl, range_map_getF ((Str.empty, []) : Str × List Int) rows (fun r => lineS r.1 r.2 ++ Str.ofString "\n")] at e
      have er : rows.map (fun r => lineS r.1 r.2 ++ Str.ofString "\n") = (rows.map fun r => lineS r.1 r.2).map fun z => z ++ Str.ofString "\n" := by rw [List.map_map]; rfl
      rw [er] at e
      exact ⟨_, D, _, rfl, rfl, .inl (SqL.of e), (closed_len (rows_len ok) (by rw [List.length_map]; exact hn)).2, k _ r⟩
def sp_number_in : Sp := fun vs H Q _ => ∃ n, vs = [.str (dS n)] ∧ Fig n ∧ ∀ H', Same H H' → Q (.int n) H'
theorem ok_number_in (T : Txt K mg) : FnOk P w K mg base CX0 1 (He.ga K "number_in") (fdOf K ("number_in", none)) ["word"] sp_number_in := by
  refine okF T.d_number_in.fn sc_number_in (fun vs H Q E h => ?_) (fun cdv A outer s H vs Q E hr h => ?_)
  · obtain ⟨n, rfl, _⟩ := h; rfl
  · obtain ⟨n, rfl, hf, k⟩ := h
    have h1 := len_dS hf
    have ht := tl_dS hf
    refine ⟨_, pss_cons (ps_if (PW.pt (pw_or (pt_not (pt_chain op_le op_le pe_int (pe_callB call_len_str (by rfl) T.m_len PySem.boot_len (pa_cons (pv 0) pa_nil)) (pe_gi T.c_MOST_FIGURES)))
        (pw_or1 (pt_not (pt_val (pe_callB (cr_all rfl) (by rfl) T.m_all bt_all (pa_cons
          (pe_lc (own := [("sign", 1)]) (g := gName 1) rfl sc_number_in.nd (pi_str (pv 0)) (blkOk_by (N := ["word", "sign"]) (sc := defScope s_number_in) (by decide +kernel)) (fun _ _ _ _ _ => pg_name (i := 1) sc_number_in.nd rfl (Or.inl rfl)) (fun _ _ _ _ _ => pts_nil)
            (fun _ _ _ _ _ => pe_cmpR op_in_sign (pv 1) (pe_gs T.c_DIGITS) rfl)) pa_nil)))))))
        (pss_one (ps_ret pe_non)) pss_nil)
      (pss_one (ps_ret (pe_ifExp (PW.pt (pw_or (pt_cmpR op_eq (pv 0) pe_str (nomark _)) (pw_or1 (pt_cmpR op_ne (pe_ix ix_str (pv 0) pe_int (fun _ _ => rfl)) pe_str (nomark _)))))
        (pe_callTy call_int_str (by rfl) T.m_int bt_int (pa_cons (pv 0) pa_nil)) pe_non))), ?_⟩
    refine ⟨_, rfl, dS n, rfl, size_ok (by omega), _, _, rfl, rfl, _, rfl, ?_⟩
    refine iteB (decide_eq_true (by omega)) ⟨_, _, rfl, rfl, _, rfl, ?_⟩
    refine iteN (by rw [decide_eq_true (by omega)]; rfl) ?_
    refine ⟨_, rfl, dS n, rfl, fun D hD => ?_⟩
    have hsz : (dS n).cps.size = 1 := h1
    refine lc_map walk_str (fun y d _ => y = V.bl d) (fun _ => true) hD (fun _ _ _ _ _ h => h) (fun _ _ => trivial) (by omega) ?_ ?_
    · rintro i x H1 _ hi r ⟨rfl, c, hc, rfl⟩ Qt q
      refine ⟨rfl, _, rfl, c, _, rfl, rfl, q _ _ (Same.refl _) ?_⟩
      have hcm : c ∈ TL.tl (dS n) := by
        have e : (TL.tl (dS n))[i]? = some c := by
          show (dS n).cps.toList[i]? = some c
          rw [Array.getElem?_toList]; exact hc
        exact List.mem_of_getElem? e
      rw [ht] at hcm
      have e := List.mem_singleton.mp hcm
      have hd : c ∈ (Str.ofString "0123456789").cps.toList := by
        show c ∈ TL.tl (Str.ofString "0123456789")
        rw [tl_digits]
        have h0 := hf.1
        have h9 := hf.2
        have hcase : c = 48 ∨ c = 49 ∨ c = 50 ∨ c = 51 ∨ c = 52 ∨ c = 53 ∨ c = 54 ∨ c = 55 ∨ c = 56 ∨ c = 57 := by omega
        simpa using hcase
      rw [decide_eq_true hd]
    · intro H1 ys r e p
      have ey := paired_map p
      subst ey
      refine ⟨D, _, rfl, SqL.of e, _, rfl, iteN (by rw [all_true]; rfl) ?_⟩
      have hint : ∀ Q0 : VK, Q0 (.int n) H1 → ∃ v : V, ([some (.str (dS n)), none] : L2.St)[0]? = some (some v) ∧ ∃ a m, [v] = [V.str a] ∧ intText? a = some m ∧ a.length ≤ 640 ∧ Q0 (.int m) H1 := fun Q0 q => ⟨_, rfl, _, n, rfl, int_dS hf, by omega, q⟩
      refine ⟨_, rfl, rfl, _, rfl, ?_⟩
      by_cases hz : V.str (dS n) = V.str (Str.ofString "0")
      · refine iteB (decide_eq_true hz) ?_
        exact hint _ (k H1 r)
      · refine iteN (decide_eq_false hz) ?_
        have hat : atI (dS n).cps.toList 0 = some (48 + n.toNat) := by
          show atI (TL.tl (dS n)) 0 = _
          rw [ht]; rfl
        refine ⟨_, rfl, dS n, 0, _, rfl, rfl, size_ok (by omega), hat, rfl, _, rfl, ?_⟩
        have hne : ¬ V.str ⟨#[48 + n.toNat]⟩ = V.str (Str.ofString "0") := fun e => hz (by rw [S_of_tl ht]; exact e)
        refine iteB (by rw [decide_eq_false hne]; rfl) ?_
        exact hint _ (k H1 r)
def sp_numbers_in : Sp := fun vs H Q _ => ∃ z ns, vs = [.str (lineS z ns), .str z] ∧ RowOk (z, ns) ∧ 32 ∉ TL.tl z ∧ ∀ H' r, Same H H' → TI H' r ns → Q r H'
theorem ok_numbers_in (T : Txt K mg) : FnOk P w K mg base CX0 2 (He.ga K "numbers_in") (fdOf K ("numbers_in", none)) ["line", "word"] sp_numbers_in := by
  refine okF T.d_numbers_in.fn sc_numbers_in (fun vs H Q E h => ?_) (fun cdv A outer s H vs Q E hr h => ?_)
  · obtain ⟨z, ns, rfl, _⟩ := h; rfl
  · obtain ⟨z, ns, rfl, ok, hz, k⟩ := h
    have hll := line_len ok.fig ok.w ok.len
    simp only at hll
    have hnl := ok.len
    simp only at hnl
    refine ⟨_, pss_cons (ps_set (i := 2) sc_numbers_in.nd rfl (.inl rfl) (pe_split (pv 0) pe_str))
      (pss_cons (ps_set (i := 3) sc_numbers_in.nd rfl (.inl rfl) (pe_callTy call_tuple_of (by rfl) T.m_tuple bt_tuple (pa_cons
        (pe_lc (own := [("other", 4)]) (g := gName 4) rfl sc_numbers_in.nd (pi_list (pe_slice sl_list (pv 2) (po_some pe_int) po_none)) (blkOk_by (N := ["line", "word", "words", "numbers", "other"]) (sc := defScope s_numbers_in) (by decide +kernel))
          (fun _ _ _ _ _ => pg_name (i := 4) sc_numbers_in.nd rfl (Or.inl rfl)) (fun _ _ _ _ _ => pts_nil) (fun _ _ _ _ _ => pe_d T.d_number_in (ok_number_in T) hr (pa_cons (pv 4) pa_nil))) pa_nil)))
      (pss_one (ps_ret (pe_ifExp (PW.pt (pw_or (pt_cmpR op_ne (pe_ix ix_list (pv 2) pe_int (fun _ _ => rfl)) (pv 1) (nomark _)) (pw_or1 (pt_cmpR op_in_seq pe_non (pv 3) rfl)))) pe_non (pv 3))))), ?_⟩
    refine ⟨_, rfl, ⟨_, rfl⟩, _, _, rfl, rfl, by decide +kernel, size_ok (by omega), fun l nl => ?_⟩
    have es : Txt.split (lineS z ns) (Str.ofString " ") = z :: ns.map dS := split_line hz ok.fig
    rw [es]
    have s1 : Same H (upd H l (.lst ((z :: ns.map dS).map V.str))) := same_new nl
    have ec : cutV ((z :: ns.map dS).map V.str) (some 1) none = (ns.map dS).map V.str := cut_tail _ _
    refine ⟨_, rfl, 1, rfl, l, _, rfl, SqL.of upd_same, fun c nc => ?_⟩
    rw [ec]
    have s2 := s1.trans (same_new (o := .lst ((ns.map dS).map V.str)) nc)
    refine ⟨c, rfl, ⟨_, SqL.of upd_same⟩, fun D hD => ?_⟩
    refine lc_map walk_list (fun y (d : Int) _ => y = V.int d) (fun i => ns.getD i 0) hD (fun _ _ _ _ _ h => h) (fun H' r => SqL.of (r _ _ upd_same)) (by rw [List.length_map, List.length_map]; omega) ?_ ?_
    · rintro i x H1 _ hi r ⟨rfl, e⟩ Qt q
      obtain ⟨z1, hz1, rfl⟩ := map_get e
      obtain ⟨n, hn, rfl⟩ := map_get hz1
      refine ⟨rfl, _, rfl, n, rfl, ok.fig n (List.mem_of_getElem? hn), fun H2 s3 => q _ _ s3 ?_⟩
      rw [getD_of hn]
    · intro H1 ys r e p
      have ey := paired_map p
      subst ey
      rw [List.length_map, List.length_map, range_map_get (0 : Int) ns] at e
      have hl1 : H1 l = some (.lst ((z :: ns.map dS).map V.str)) := r _ _ (same_new nc _ _ upd_same)
      refine ⟨D, _, rfl, .inl ⟨SqL.of e, fun t nt => ?_⟩⟩
      have s3 := (s2.trans r).trans (same_new (o := .tup (ns.map V.int)) nt)
      refine ⟨_, rfl, l, _, 0, .str z, rfl, rfl, SqL.of (same_new nt _ _ hl1), at_of (j := 0) rfl rfl, _, rfl, rfl, _, rfl, ?_⟩
      refine iteN (by rw [decide_eq_true rfl]; rfl) ?_
      refine ⟨_, rfl, t, _, rfl, .inr (SqT.of upd_same), rfl, flat_ints ns, _, rfl, ?_⟩
      refine iteN (inV_non ns) ?_
      exact ⟨_, rfl, k _ _ s3 ⟨t, rfl, upd_same⟩⟩
def sp_lines_of : Sp := fun vs H Q _ => ∃ ss : List Str, vs = [.str (closedS ss)] ∧ (∀ z ∈ ss, 10 ∉ TL.tl z) ∧ (closedS ss).length ≤ 4000000 ∧ ss.length ≤ 1000 ∧
  ∀ H' r l, Same H H' → H' r = some (.tup [.ref l, .str (Str.ofString "")]) → H' l = some (.lst (ss.map V.str)) → Q (.ref r) H'
theorem ok_lines_of (T : Txt K mg) : FnOk P w K mg base CX0 1 (He.ga K "lines_of") (fdOf K ("lines_of", none)) ["text"] sp_lines_of := by
  refine okF T.d_lines_of.fn sc_lines_of (fun vs H Q E h => ?_) (fun cdv A outer s H vs Q E hr h => ?_)
  · obtain ⟨ss, rfl, _⟩ := h; rfl
  · obtain ⟨ss, rfl, hz, hl, hn, k⟩ := h
    refine ⟨_, pss_cons (ps_if (pt_not (pt_val (pe_callB call_isi (by rfl) T.m_isinstance bt_isinstance (pa_cons (pv 0) (pa_cons (pe_tyN T.m_str bt_str) pa_nil))))) (pss_one ps_never) pss_nil)
      (pss_cons (ps_set (i := 1) sc_lines_of.nd rfl (.inl rfl) (pe_split (pv 0) pe_str))
      (pss_one (ps_ret (pe_tup (pa_cons (pe_slice sl_list (pv 1) po_none (po_some (pe_un un_neg pe_int))) (pa_cons (pe_ix ix_list (pv 1) (pe_un un_neg pe_int) (fun _ _ => rfl)) pa_nil)))))), ?_⟩
    refine ⟨_, rfl, _, _, _, _, true, rfl, .ty _, .base (.str _), kit_ty (by decide +kernel), true, rfl, iteF ?_⟩
    refine ⟨_, rfl, ⟨_, rfl⟩, _, _, rfl, rfl, by decide +kernel, Nat.le_trans (Nat.add_le_add_right hl 2) (by decide), fun l nl => ?_⟩
    rw [split_closed hz, List.map_append]
    refine ⟨_, rfl, 1, rfl, _, rfl, l, _, rfl, SqL.of upd_same, fun c nc => ?_⟩
    rw [show ([Str.ofString ""] : List Str).map V.str = [V.str (Str.ofString "")] from rfl, cut_init]
    have s1 : Same H (upd H l (.lst (ss.map V.str ++ [V.str (Str.ofString "")]))) := same_new nl
    have s2 := s1.trans (same_new (o := .lst (ss.map V.str)) nc)
    refine ⟨_, rfl, 1, rfl, l, _, -1, _, rfl, rfl, SqL.of (same_new nc _ _ upd_same), atI_last _ _, by show 2 ≤ sizeLine; decide, fun t nt => ?_⟩
    exact k _ t c (s2.trans (same_new nt)) upd_same (same_new nt _ _ upd_same)
def sp_check_end : Sp := fun vs H Q _ => ∃ l xs, vs = [.ref l, .str (Str.ofString "")] ∧ H l = some (.lst xs) ∧ xs ≠ [] ∧ Q .non H
theorem ok_check_end (T : Txt K mg) : FnOk P w K mg base CX0 1 (He.ga K "check_end") (fdOf K ("check_end", none)) ["lines", "rest"] sp_check_end := by
  refine okF T.d_check_end.fn sc_check_end (fun vs H Q E h => ?_) (fun cdv A outer s H vs Q E hr h => ?_)
  · obtain ⟨l, xs, rfl, _⟩ := h; rfl
  · obtain ⟨l, xs, rfl, hl, hx, k⟩ := h
    refine ⟨_, pss_one (ps_if (PW.pt (pw_or (pt_cmpR op_ne (pv 1) pe_str (nomark _)) (pw_or1 (pt_cmpR op_eq (pe_callB call_len_seq (by rfl) T.m_len PySem.boot_len (pa_cons (pv 0) pa_nil)) pe_int (nomark _))))) (pss_one ps_never) pss_nil), ?_⟩
    refine ⟨_, rfl, rfl, _, rfl, iteN (by rw [decide_eq_true rfl]; rfl) ?_⟩
    refine ⟨_, rfl, l, xs, rfl, .inl (SqL.of hl), rfl, _, rfl, iteN (decide_eq_false fun e => ?_) k⟩
    have e1 := V.int.inj e
    have : xs.length = 0 := by omega
    exact hx (List.length_eq_zero_iff.mp this)
end
end GA
/-! GaReads2: parts_in, read_web, read_record, read_hall. -/
namespace GA
open PySem PySem.Spec PyProof.Rows L2
theorem par_nn {X : Cx} {a : Expr} {ta : TE} : True := trivial
/-- how many numbers a line may have -/
def SzOk (z : V) (n : Nat) : Prop := z = .non ∨ z = .int (n : Int)
theorem sz_scal {z : V} {n : Nat} (h : SzOk z n) : scal (.int (n : Int)) z = true := by
  rcases h with rfl | rfl <;> rfl
section
variable {P : Program} {w : World} {K : PySem.W.Frag} {mg : Str → Option Value} {base : Heap}
def sp_parts_in : Sp := fun vs H Q _ => ∃ w0 w1 a ls t z0 z1, vs = [.str (textS ((w0, a) :: ls.map fun l => (w1, l))), .str w0, .str w1, .ref t] ∧ H t = some (.tup [z0, z1]) ∧ (∀ r ∈ (w0, a) :: ls.map (fun l => (w1, l)), RowOk r) ∧ 10 ∉ TL.tl w0 ∧ 10 ∉ TL.tl w1 ∧ 32 ∉ TL.tl w0 ∧ 32 ∉ TL.tl w1 ∧
  SzOk z0 a.length ∧ (∀ l ∈ ls, SzOk z1 l.length) ∧ ls.length ≤ 900 ∧ ∀ H' r xs, Same H H' → H' r = some (.lst xs) → Paired (TI H') xs (a :: ls) → Q (.ref r) H'
theorem ok_parts_in (T : Txt K mg) : FnOk P w K mg base CX0 3 (He.ga K "parts_in") (fdOf K ("parts_in", none)) ["text", "first", "later", "sizes"] sp_parts_in := by
  refine okF T.d_parts_in.fn sc_parts_in (fun vs H Q E h => ?_) (fun cdv A outer s H vs Q E hr h => ?_)
  · obtain ⟨w0, w1, a, ls, t, z0, z1, rfl, _⟩ := h; rfl
  · obtain ⟨w0, w1, a, ls, t, z0, z1, rfl, ht, ok, f0, f1, b0, b1, hz0, hz1, hn, k⟩ := h
    refine ⟨_, pss_cons (ps_asg (pe_d T.d_lines_of (ok_lines_of T) (hr.mono (by decide)) (pa_cons (pv 0) pa_nil)) (pg_tup rfl (pgs_cons (pg_name (i := 4) sc_parts_in.nd rfl (Or.inl rfl)) (pgs_cons (pg_name (i := 5) sc_parts_in.nd rfl (Or.inl rfl)) pgs_nil))))
      (pss_cons (ps_set (i := 6) sc_parts_in.nd rfl (.inl rfl) (pe_lst pa_nil))
      (pss_cons (ps_for PassesOwn.never rfl (pi_enum (by rfl) T.m_enumerate (pa_cons (pv 4) pa_nil)) (pg_tup rfl (pgs_cons (pg_name (i := 7) sc_parts_in.nd rfl (Or.inl rfl)) (pgs_cons (pg_name (i := 8) sc_parts_in.nd rfl (Or.inl rfl)) pgs_nil)))
        (pss_cons (ps_set (i := 9) sc_parts_in.nd rfl (.inl rfl) (pe_d T.d_numbers_in (ok_numbers_in T) hr (pa_cons (pv 8) (pa_cons (pe_ifExp (pt_cmpR op_eq (pv 7) pe_int (nomark _)) (pv 1) (pv 2)) pa_nil))))
        (pss_cons (ps_set (i := 10) sc_parts_in.nd rfl (.inl rfl) (pe_ifExp (pt_cmpR op_eq (pv 7) pe_int (nomark _)) (pe_ix ix_tup (pv 3) pe_int (fun _ _ => rfl)) (pe_ix ix_tup (pv 3) pe_int (fun _ _ => rfl))))
        (pss_cons (ps_if (PW.pt (pw_or (pt_cmpR op_isN (pv 9) pe_non (nomark _)) (pw_or1 (PW.pt (pw_and (pt_cmpR op_notN (pv 10) pe_non (nomark _)) (pw_and1 (pt_cmpR op_ne (pe_callB call_len_seq (by rfl) T.m_len PySem.boot_len (pa_cons (pv 9) pa_nil)) (pv 10) (nomark _))))))))
          (pss_one ps_never) pss_nil)
        (pss_one (ps_expr (pe_bm PySem.F.plainAttrs_list PySem.F.slot_list_append PySem.F.type_list_append mt_append (pv 6) (pa_cons (pv 9) pa_nil))))))))
      (pss_cons (ps_expr (pe_d T.d_check_end (ok_check_end T) (hr.mono (by decide)) (pa_cons (pv 4) (pa_cons (pv 5) pa_nil))))
      (pss_one (ps_ret (pv 6)))))), ?_⟩
    have er : (((w0, a) :: ls.map fun l => (w1, l)).map fun r : Str × List Int => lineS r.1 r.2) = lineS w0 a :: ls.map (lineS w1) := by
      rw [List.map_cons, List.map_map]; rfl
    have hss : ∀ z ∈ (lineS w0 a :: ls.map (lineS w1)), 10 ∉ TL.tl z := fun z hz => by
      rcases List.mem_cons.mp hz with rfl | hz
      · exact no_feed f0 (ok _ (List.mem_cons_self ..)).fig
      · obtain ⟨l, hl, rfl⟩ := List.mem_map.mp hz
        exact no_feed f1 (ok _ (List.mem_cons_of_mem _ (List.mem_map_of_mem hl))).fig
    have hlen : (lineS w0 a :: ls.map (lineS w1)).length ≤ 1000 := by rw [List.length_cons, List.length_map]; omega
    have hcl := (closed_len (fun z hz => by rw [← er] at hz; exact rows_len ok z hz) hlen).1
    have et : textS ((w0, a) :: ls.map fun l => (w1, l)) = closedS (lineS w0 a :: ls.map (lineS w1)) := by unfold textS; rw [er]
    refine ⟨_, rfl, lineS w0 a :: ls.map (lineS w1), by rw [et]; rfl, hss, by omega, hlen, fun H1 r l s1 hr1 hl1 => ?_⟩
    refine ⟨r, _, rfl, SqT.of hr1, rfl, _, _, rfl, _, _, rfl, rfl, ?_⟩
    refine ⟨Nat.zero_le _, fun f nf => ?_⟩
    have s2 : Same H1 (upd H1 f (.lst [])) := same_new nf
    refine ⟨_, rfl, l, _, rfl, SqL.of (s2 _ _ hl1), for_it walk_enum (fun i σ H' => ∃ xs y7 y8 y9 y10, σ = [some (.str (textS ((w0, a) :: ls.map fun l => (w1, l)))), some (.str w0), some (.str w1), some (.ref t), some (.ref l), some (.str (Str.ofString "")), some (.ref f), y7, y8, y9, y10] ∧
      Same H1 H' ∧ H' f = some (.lst xs) ∧ Paired (TI H') xs ((a :: ls).take i)) ⟨[], none, none, none, none, rfl, s2, upd_same, .nil⟩ (fun i σ H' _ q => let ⟨_, _, _, _, _, _, r, _⟩ := q; SqL.of (r _ _ hl1)) ?_ ?_⟩
    · rintro i _ _ H2 _ hi ⟨xs, y7, y8, y9, y10, rfl, r2, hf, hp⟩ ⟨Tp, x1, x2, rfl, nT, rfl, e1, e2⟩
      cases Option.some.inj e1
      have s3 : Same H2 (upd H2 Tp (.tup [.int (i : Nat), x2])) := same_new nT
      have i12 : i < (a :: ls).length := by
        rw [List.length_map, List.length_cons, List.length_map] at hi
        rw [List.length_cons]; exact hi
      have hgi : (a :: ls)[i]? = some (a :: ls)[i] := List.getElem?_eq_getElem i12
      refine ⟨Tp, _, rfl, SqT.of upd_same, rfl, _, _, rfl, _, _, rfl, rfl, ?_⟩
      -- the row's word and numbers
      have key : ∃ wd b zz, x2 = V.str (lineS wd b) ∧ RowOk (wd, b) ∧ 32 ∉ TL.tl wd ∧ SzOk zz b.length ∧ (a :: ls)[i]? = some b ∧ ((i = 0 ∧ wd = w0 ∧ zz = z0) ∨ (i ≠ 0 ∧ wd = w1 ∧ zz = z1)) := by
        cases i with
        | zero =>
          have e3 : V.str (lineS w0 a) = x2 := Option.some.inj e2
          exact ⟨w0, a, z0, e3.symm, ok _ (List.mem_cons_self ..), b0, hz0, rfl, .inl ⟨rfl, rfl, rfl⟩⟩
        | succ j =>
          have e3 : ((ls.map (lineS w1)).map V.str)[j]? = some x2 := e2
          obtain ⟨z, hz, rfl⟩ := map_get e3
          obtain ⟨b, hb, rfl⟩ := map_get hz
          have hbm := List.mem_of_getElem? hb
          exact ⟨w1, b, z1, rfl, ok _ (List.mem_cons_of_mem _ (List.mem_map_of_mem hbm)), b1, hz1 b hbm, hb, .inr ⟨Nat.succ_ne_zero _, rfl, rfl⟩⟩
      obtain ⟨wd, b, zz, rfl, okr, hb32, hzz, hgb, hcase⟩ := key
      have tt2 : (upd H2 Tp (.tup [.int (i : Nat), V.str (lineS wd b)])) t = some (.tup [z0, z1]) := s3 _ _ (r2 _ _ (s1 _ _ ht))
      have ein : ∀ Q0 : VK, Q0 (.str wd) (upd H2 Tp (.tup [.int (i : Nat), V.str (lineS wd b)])) →
          tIf (tTest (tOp rEq (tVar 7) (tC (.int 0)))) (tVar 1) (tVar 2) ([some (.str (textS ((w0, a) :: ls.map fun l => (w1, l)))), some (.str w0), some (.str w1), some (.ref t), some (.ref l), some (.str (Str.ofString "")), some (.ref f), some (.int (i : Nat)), some (.str (lineS wd b)), y9, y10] : L2.St) (upd H2 Tp (.tup [.int (i : Nat), V.str (lineS wd b)])) Q0 := fun Q0 q => by
        refine ⟨_, rfl, rfl, _, rfl, ?_⟩
        rcases hcase with ⟨rfl, rfl, _⟩ | ⟨h0, rfl, _⟩
        · exact iteB (decide_eq_true rfl) ⟨_, rfl, q⟩
        · exact iteN (decide_eq_false fun e => h0 (by have := V.int.inj e; omega)) ⟨_, rfl, q⟩
      refine ⟨_, rfl, ein _ ⟨wd, b, rfl, okr, hb32, fun H3 rv s4 tv => ?_⟩⟩
      have ein2 : ∀ Q0 : VK, Q0 zz H3 →
          tIf (tTest (tOp rEq (tVar 7) (tC (.int 0)))) (tOp (rIxT K) (tVar 3) (tC (.int 0))) (tOp (rIxT K) (tVar 3) (tC (.int 1))) ([some (.str (textS ((w0, a) :: ls.map fun l => (w1, l)))), some (.str w0), some (.str w1), some (.ref t), some (.ref l), some (.str (Str.ofString "")), some (.ref f), some (.int (i : Nat)), some (.str (lineS wd b)), some rv, y10] : L2.St) H3 Q0 := fun Q0 q => by
        have tt3 := SqT.of (K := K) (s4 _ _ tt2)
        refine ⟨_, rfl, rfl, _, rfl, ?_⟩
        rcases hcase with ⟨rfl, _, rfl⟩ | ⟨h0, _, rfl⟩
        · exact iteB (decide_eq_true rfl) ⟨_, rfl, t, _, 0, _, rfl, rfl, tt3, rfl, q⟩
        · exact iteN (decide_eq_false fun e => h0 (by have := V.int.inj e; omega)) ⟨_, rfl, t, _, 1, _, rfl, rfl, tt3, rfl, q⟩
      refine ein2 _ ?_
      obtain ⟨c, rfl, hc⟩ := id tv
      have s5 := s3.trans s4
      have hf3 : H3 f = some (.lst xs) := s5 _ _ hf
      refine ⟨_, rfl, rfl, _, rfl, iteN (decide_eq_false (fun e => by cases e)) ?_⟩
      have fin : ([some (.str (textS ((w0, a) :: ls.map fun l => (w1, l)))), some (.str w0), some (.str w1), some (.ref t), some (.ref l), some (.str (Str.ofString "")), some (.ref f), some (.int (i : Nat)), some (.str (lineS wd b)), some (.ref c), some zz] : L2.St)[6]? = some (some (.ref f)) := rfl
      have hxl : xs.length = ((a :: ls).take i).length := hp.length
      have hxn : xs.length ≤ 1000 := by rw [hxl, List.length_take, List.length_cons]; omega
      have go : ∃ xs' y7 y8 y9 y10, ([some (.str (textS ((w0, a) :: ls.map fun l => (w1, l)))), some (.str w0), some (.str w1), some (.ref t), some (.ref l), some (.str (Str.ofString "")), some (.ref f), some (.int (i : Nat)), some (.str (lineS wd b)), some (.ref c), some zz] : L2.St) = [some (.str (textS ((w0, a) :: ls.map fun l => (w1, l)))), some (.str w0), some (.str w1), some (.ref t), some (.ref l), some (.str (Str.ofString "")), some (.ref f), y7, y8, y9, y10] ∧
          Same H1 (upd H3 f (.lst (xs ++ [.ref c]))) ∧ (upd H3 f (.lst (xs ++ [.ref c]))) f = some (.lst xs') ∧ Paired (TI (upd H3 f (.lst (xs ++ [.ref c])))) xs' ((a :: ls).take (i + 1)) := by
        refine ⟨_, _, _, _, _, rfl, same_mut (r2.trans s5) nf, upd_same, ?_⟩
        rw [List.take_add_one, hgb]
        exact paired_append (pti_im hp ((same_im s5).trans (im_lst hf3))) (.cons (tv.im (im_lst hf3)) .nil)
      refine ⟨_, rfl, rfl, _, rfl, ?_⟩
      rcases hzz with rfl | rfl
      · refine iteN (by rw [decide_eq_true rfl]; rfl) ?_
        exact ⟨_, rfl, .inl ⟨rfl, _, SqL.of hf3⟩, _, rfl, f, xs, _, rfl, rfl, hf3, size_lt (by omega), go⟩
      · refine iteB (by rw [decide_eq_false (fun e => by cases e)]; rfl) ?_
        refine ⟨_, rfl, c, _, rfl, .inr (SqT.of hc), _, rfl, rfl, _, rfl, ?_⟩
        refine iteN (by rw [List.length_map, decide_eq_true rfl]; rfl) ?_
        exact ⟨_, rfl, .inl ⟨rfl, _, SqL.of hf3⟩, _, rfl, f, xs, _, rfl, rfl, hf3, size_lt (by omega), go⟩
    · rintro _ H2 ⟨xs, y7, y8, y9, y10, rfl, r2, hf, hp⟩
      rw [List.take_of_length_le (by rw [List.length_map, List.length_cons, List.length_cons, List.length_map]; exact Nat.le_refl _)] at hp
      refine ⟨_, rfl, _, rfl, l, _, rfl, r2 _ _ hl1, by simp, ?_⟩
      exact ⟨_, rfl, k _ _ _ (s1.trans r2) hf hp⟩
end
end GA
/-! GaReads3: read_web, read_record, read_hall. -/
namespace GA
open PySem PySem.Spec PyProof.Rows L2
theorem n10_machines : 10 ∉ TL.tl (Str.ofString "machines") := by rw [TL.tl_ofString]; decide +kernel
theorem n32_machines : 32 ∉ TL.tl (Str.ofString "machines") := by rw [TL.tl_ofString]; decide +kernel
theorem n10_wire : 10 ∉ TL.tl (Str.ofString "wire") := by rw [TL.tl_ofString]; decide +kernel
theorem n32_wire : 32 ∉ TL.tl (Str.ofString "wire") := by rw [TL.tl_ofString]; decide +kernel
theorem n10_writers : 10 ∉ TL.tl (Str.ofString "writers") := by rw [TL.tl_ofString]; decide +kernel
theorem n32_writers : 32 ∉ TL.tl (Str.ofString "writers") := by rw [TL.tl_ofString]; decide +kernel
theorem n10_diary : 10 ∉ TL.tl (Str.ofString "diary") := by rw [TL.tl_ofString]; decide +kernel
theorem n32_diary : 32 ∉ TL.tl (Str.ofString "diary") := by rw [TL.tl_ofString]; decide +kernel
theorem n10_places : 10 ∉ TL.tl (Str.ofString "places") := by rw [TL.tl_ofString]; decide +kernel
theorem n32_places : 32 ∉ TL.tl (Str.ofString "places") := by rw [TL.tl_ofString]; decide +kernel
theorem n10_link : 10 ∉ TL.tl (Str.ofString "link") := by rw [TL.tl_ofString]; decide +kernel
theorem n32_link : 32 ∉ TL.tl (Str.ofString "link") := by rw [TL.tl_ofString]; decide +kernel
section
variable {P : Program} {w : World} {K : PySem.W.Frag} {mg : Str → Option Value} {base : Heap}
def sp_read_web (C : Addr) : Sp := fun vs H Q _ => ∃ m ls, vs = [.str (textS (webRows m ls))] ∧ 1 ≤ m ∧ m ≤ 7 ∧ WiresOk m ls ∧ ls.length ≤ 900 ∧ ∀ H' v, Same H H' → WebAt C H' v m ls → Q v H'
theorem ok_read_web (T : Txt K mg) : FnOk P w K mg base CX0 6 (He.ga K "read_web") (fdOf K ("read_web", none)) ["text"] (sp_read_web (He.ga K "Web")) := by
  refine okF T.d_read_web.fn sc_read_web (fun vs H Q E h => ?_) (fun cdv A outer s H vs Q E hr h => ?_)
  · obtain ⟨m, ls, rfl, _⟩ := h; rfl
  · obtain ⟨m, ls, rfl, m1, m7, ok, hn, k⟩ := h
    have hw2 : ∀ l ∈ ls, l.length = 2 ∧ ∀ n ∈ l, Fig n := fun l hl => by
      obtain ⟨y, x, rfl, h1, h2, h3, h4, h5⟩ := ok.1 l hl
      refine ⟨rfl, fun n hn => ?_⟩
      have : n = y ∨ n = x := by simpa using hn
      rcases this with rfl | rfl <;> exact ⟨by omega, by omega⟩
    have hro := rows_ok (w0 := Str.ofString "machines") (w1 := Str.ofString "wire") (a := [m]) (ls := ls) w_machines w_wire (fun n hn => by rw [List.mem_singleton.mp hn]; exact ⟨by omega, by omega⟩) (by show 1 ≤ 1000; decide) (fun l hl => (hw2 l hl).2) (fun l hl => by rw [(hw2 l hl).1]; decide)
    refine ⟨_, pss_cons (ps_set (i := 1) sc_read_web.nd rfl (.inl rfl) (pe_d T.d_parts_in (ok_parts_in T) (hr.mono (by decide)) (pa_cons (pv 0) (pa_cons pe_str (pa_cons pe_str (pa_cons (pe_tup (pa_cons pe_int (pa_cons pe_int pa_nil))) pa_nil))))))
      (pss_one (ps_ret (pe_C T.C_Web T.t_Web_init (ok_webI T) hr (pa_cons (pe_ix ix_tup (pe_ix ix_list (pv 1) pe_int (fun _ _ => rfl)) pe_int (fun _ _ => rfl))
        (pa_cons (pe_callTy call_tuple_of (by rfl) T.m_tuple bt_tuple (pa_cons (pe_slice sl_list (pv 1) (po_some pe_int) po_none) pa_nil)) pa_nil))))), ?_⟩
    refine ⟨_, rfl, by show 2 ≤ sizeLine; decide, fun t nt => ?_⟩
    have s0 : Same H (upd H t (.tup [.int 1, .int 2])) := same_new nt
    refine ⟨_, _, [m], ls, t, .int 1, .int 2, rfl, upd_same, hro, n10_machines, n10_wire, n32_machines, n32_wire, .inr rfl, fun l hl => .inr (by rw [(hw2 l hl).1]; rfl), hn, fun H1 r xs s1 hr1 px => ?_⟩
    cases px with
    | @cons x0 a0 xs ls0 h0 ht =>
    obtain ⟨b, rfl, hb⟩ := h0
    have hxl : xs.length = ls.length := ht.length
    refine ⟨_, rfl, r, _, 0, _, rfl, rfl, SqL.of hr1, at_of (j := 0) rfl rfl, b, _, 0, .int m, rfl, rfl, SqT.of hb, rfl, ?_⟩
    refine ⟨_, rfl, 1, rfl, r, _, rfl, SqL.of hr1, fun c nc => ?_⟩
    rw [cut_tail]
    have s2 : Same H1 (upd H1 c (.lst xs)) := same_new nc
    refine ⟨c, _, rfl, .inl ⟨SqL.of upd_same, fun d nd => ?_⟩⟩
    have s3 := s2.trans (same_new (o := .tup xs) nd)
    intro x dx nx ndx nex
    have s4 : Same (upd (upd H1 c (.lst xs)) d (.tup xs)) (upd (upd (upd (upd H1 c (.lst xs)) d (.tup xs)) dx (.own x)) x (.ins (He.ga K "Web") dx [])) := same_mut (same_new ndx) nx
    have tt : TTI (upd (upd (upd (upd H1 c (.lst xs)) d (.tup xs)) dx (.own x)) x (.ins (He.ga K "Web") dx [])) (.ref d) ls := ⟨d, xs, rfl, s4 _ _ upd_same, pti_im ht (same_im (s3.trans s4))⟩
    refine ⟨x, dx, m, .ref d, ls, rfl, upd_same, m1, m7, tt, ok, by omega, fun H2 k2 e2 => ⟨rfl, ?_⟩⟩
    have s5 : Same (upd (upd H1 c (.lst xs)) d (.tup xs)) H2 := fun b0 o e => k2 b0 o (ne_of_none e nx) (s4 b0 o e)
    refine k H2 _ (((s0.trans s1).trans s3).trans s5) ⟨x, dx, .ref d, rfl, e2, tt.im ?_⟩
    exact k2.im fun ys e => by rw [upd_same] at e; cases e
def sp_read_record (C : Addr) : Sp := fun vs H Q _ => ∃ ws ds, vs = [.str (textS (recRows ws ds))] ∧ RecOk ws ds ∧ ws.length ≤ 10 ∧ ∀ H' v, Same H H' → RecAt C H' v ws ds → Q v H'
theorem RecOk.figs {ws : List Int} {ds : List (List Int)} (ok : RecOk ws ds) (h10 : ws.length ≤ 10) : (∀ n ∈ ws, Fig n) ∧ (∀ l ∈ ds, ∀ n ∈ l, Fig n) ∧ ∀ l ∈ ds, l.length ≤ 1000 :=
  ⟨fun n hn => ⟨(ok.writer n hn).1, by have := (ok.writer n hn).2; have := ok.few; omega⟩, fun l hl n hn => ⟨(ok.put l hl n hn).1, by have := (ok.put l hl n hn).2; omega⟩, fun l hl => by have := ok.short hl; omega⟩
theorem ok_read_record (T : Txt K mg) : FnOk P w K mg base CX0 6 (He.ga K "read_record") (fdOf K ("read_record", none)) ["text"] (sp_read_record (He.ga K "Record")) := by
  refine okF T.d_read_record.fn sc_read_record (fun vs H Q E h => ?_) (fun cdv A outer s H vs Q E hr h => ?_)
  · obtain ⟨ws, ds, rfl, _⟩ := h; rfl
  · obtain ⟨ws, ds, rfl, ok, h10, k⟩ := h
    obtain ⟨fw, fd, ld⟩ := ok.figs h10
    have h7 := ok.few
    have hro := rows_ok (w0 := Str.ofString "writers") (w1 := Str.ofString "diary") (a := ws) (ls := ds) w_writers w_diary fw (by omega) fd ld
    refine ⟨_, pss_cons (ps_set (i := 1) sc_read_record.nd rfl (.inl rfl) (pe_d T.d_parts_in (ok_parts_in T) (hr.mono (by decide)) (pa_cons (pv 0) (pa_cons pe_str (pa_cons pe_str (pa_cons (pe_tup (pa_cons pe_non (pa_cons pe_non pa_nil))) pa_nil))))))
      (pss_one (ps_ret (pe_C T.C_Record T.t_Record_init (ok_recI T) hr (pa_cons (pe_ix ix_list (pv 1) pe_int (fun _ _ => rfl))
        (pa_cons (pe_callTy call_tuple_of (by rfl) T.m_tuple bt_tuple (pa_cons (pe_slice sl_list (pv 1) (po_some pe_int) po_none) pa_nil)) pa_nil))))), ?_⟩
    refine ⟨_, rfl, by show 2 ≤ sizeLine; decide, fun t nt => ?_⟩
    have s0 : Same H (upd H t (.tup [.non, .non])) := same_new nt
    refine ⟨_, _, ws, ds, t, .non, .non, rfl, upd_same, hro, n10_writers, n10_diary, n32_writers, n32_diary, .inl rfl, fun l hl => .inl rfl, by omega, fun H1 r xs s1 hr1 px => ?_⟩
    cases px with
    | @cons x0 a0 xs ls0 h0 ht =>
    refine ⟨_, rfl, r, _, 0, _, rfl, rfl, SqL.of hr1, at_of (j := 0) rfl rfl, ?_⟩
    refine ⟨_, rfl, 1, rfl, r, _, rfl, SqL.of hr1, fun c nc => ?_⟩
    rw [cut_tail]
    have s2 : Same H1 (upd H1 c (.lst xs)) := same_new nc
    refine ⟨c, _, rfl, .inl ⟨SqL.of upd_same, fun d nd => ?_⟩⟩
    have s3 := s2.trans (same_new (o := .tup xs) nd)
    intro x dx nx ndx nex
    have s4 : Same (upd (upd H1 c (.lst xs)) d (.tup xs)) (upd (upd (upd (upd H1 c (.lst xs)) d (.tup xs)) dx (.own x)) x (.ins (He.ga K "Record") dx [])) := same_mut (same_new ndx) nx
    have tt : TTI (upd (upd (upd (upd H1 c (.lst xs)) d (.tup xs)) dx (.own x)) x (.ins (He.ga K "Record") dx [])) (.ref d) ds := ⟨d, xs, rfl, s4 _ _ upd_same, pti_im ht (same_im (s3.trans s4))⟩
    have tw := h0.im (same_im (s3.trans s4))
    refine ⟨x, dx, x0, .ref d, ws, ds, rfl, upd_same, tw, tt, ok, fun H2 pl k2 e2 => ⟨rfl, ?_⟩⟩
    have s5 : Same (upd (upd H1 c (.lst xs)) d (.tup xs)) H2 := fun b0 o e => k2 b0 o (ne_of_none e nx) (s4 b0 o e)
    have im2 : Im (upd (upd (upd (upd H1 c (.lst xs)) d (.tup xs)) dx (.own x)) x (.ins (He.ga K "Record") dx [])) H2 := k2.im fun ys e => by rw [upd_same] at e; cases e
    exact k H2 _ (((s0.trans s1).trans s3).trans s5) ⟨x, dx, x0, .ref d, pl, rfl, e2, tw.im im2, tt.im im2⟩
def sp_read_hall (C : Addr) : Sp := fun vs H Q _ => ∃ ls ps, vs = [.str (textS (hallRows ls ps))] ∧ HallOk ls ps ∧ ls.length ≤ 9 ∧ ∀ H' v, Same H H' → HallAt C H' v ls ps → Q v H'
theorem HallOk.figs {ls : List (List Int)} {ps : List Int} (ok : HallOk ls ps) (h9 : ls.length ≤ 9) : (∀ n ∈ ps, Fig n) ∧ (∀ l ∈ ls, ∀ n ∈ l, Fig n) ∧ (∀ l ∈ ls, l.length = 2) :=
  ⟨fun n hn => ⟨(ok.node n hn).1, by have := (ok.node n hn).2; omega⟩, fun l hl n hn => by
    obtain ⟨o, t, rfl, h1, h2, h3⟩ := ok.links.each l hl
    have : n = o ∨ n = t := by simpa using hn
    rcases this with rfl | rfl <;> exact ⟨by omega, by omega⟩, fun l hl => by
    obtain ⟨o, t, rfl, h1, h2, h3⟩ := ok.links.each l hl
    rfl⟩
theorem ok_read_hall (T : Txt K mg) : FnOk P w K mg base CX0 9 (He.ga K "read_hall") (fdOf K ("read_hall", none)) ["text"] (sp_read_hall (He.ga K "Hall")) := by
  refine okF T.d_read_hall.fn sc_read_hall (fun vs H Q E h => ?_) (fun cdv A outer s H vs Q E hr h => ?_)
  · obtain ⟨ls, ps, rfl, _⟩ := h; rfl
  · obtain ⟨ls, ps, rfl, ok, h9, k⟩ := h
    obtain ⟨fp, fl, l2⟩ := ok.figs h9
    have h7 := ok.few
    have hro := rows_ok (w0 := Str.ofString "places") (w1 := Str.ofString "link") (a := ps) (ls := ls) w_places w_link fp (by omega) fl (fun l hl => by rw [l2 l hl]; decide)
    refine ⟨_, pss_cons (ps_set (i := 1) sc_read_hall.nd rfl (.inl rfl) (pe_d T.d_parts_in (ok_parts_in T) (hr.mono (by decide)) (pa_cons (pv 0) (pa_cons pe_str (pa_cons pe_str (pa_cons (pe_tup (pa_cons pe_non (pa_cons pe_int pa_nil))) pa_nil))))))
      (pss_one (ps_ret (pe_C T.C_Hall T.t_Hall_init (ok_hallI T) hr
        (pa_cons (pe_callTy call_tuple_of (by rfl) T.m_tuple bt_tuple (pa_cons (pe_slice sl_list (pv 1) (po_some pe_int) po_none) pa_nil)) (pa_cons (pe_ix ix_list (pv 1) pe_int (fun _ _ => rfl)) pa_nil))))), ?_⟩
    refine ⟨_, rfl, by show 2 ≤ sizeLine; decide, fun t nt => ?_⟩
    have s0 : Same H (upd H t (.tup [.non, .int 2])) := same_new nt
    refine ⟨_, _, ps, ls, t, .non, .int 2, rfl, upd_same, hro, n10_places, n10_link, n32_places, n32_link, .inl rfl, fun l hl => .inr (by rw [l2 l hl]; rfl), by omega, fun H1 r xs s1 hr1 px => ?_⟩
    cases px with
    | @cons x0 a0 xs ls0 h0 ht =>
    refine ⟨_, rfl, 1, rfl, r, _, rfl, SqL.of hr1, fun c nc => ?_⟩
    rw [cut_tail]
    have s2 : Same H1 (upd H1 c (.lst xs)) := same_new nc
    refine ⟨c, _, rfl, .inl ⟨SqL.of upd_same, fun d nd => ?_⟩⟩
    have s3 := s2.trans (same_new (o := .tup xs) nd)
    refine ⟨_, rfl, r, _, 0, _, rfl, rfl, SqL.of (s3 _ _ hr1), at_of (j := 0) rfl rfl, ?_⟩
    intro x dx nx ndx nex
    have s4 : Same (upd (upd H1 c (.lst xs)) d (.tup xs)) (upd (upd (upd (upd H1 c (.lst xs)) d (.tup xs)) dx (.own x)) x (.ins (He.ga K "Hall") dx [])) := same_mut (same_new ndx) nx
    have tt : TTI (upd (upd (upd (upd H1 c (.lst xs)) d (.tup xs)) dx (.own x)) x (.ins (He.ga K "Hall") dx [])) (.ref d) ls := ⟨d, xs, rfl, s4 _ _ upd_same, pti_im ht (same_im (s3.trans s4))⟩
    have tp := h0.im (same_im (s3.trans s4))
    refine ⟨x, dx, .ref d, x0, ls, ps, rfl, upd_same, tt, tp, ok, fun H2 k2 e2 => ⟨rfl, ?_⟩⟩
    have s5 : Same (upd (upd H1 c (.lst xs)) d (.tup xs)) H2 := fun b0 o e => k2 b0 o (ne_of_none e nx) (s4 b0 o e)
    have im2 : Im (upd (upd (upd (upd H1 c (.lst xs)) d (.tup xs)) dx (.own x)) x (.ins (He.ga K "Hall") dx [])) H2 := k2.im fun ys e => by rw [upd_same] at e; cases e
    exact k H2 _ (((s0.trans s1).trans s3).trans s5) ⟨x, dx, .ref d, x0, rfl, e2, tt.im im2, tp.im im2⟩
end
end GA
/-! GaDraw: the law's hand and its draws. -/
namespace GA
open PySem PySem.Spec PyProof.Rows L2
/-- the hand at a, its cells at c -/
def Hand (a c : Addr) (cs : List Int) (H : Hp) : Prop :=
  H c = some (.lst (cs.map V.int)) ∧ cs.length ≤ 63 ∧ (∀ x ∈ cs, 0 ≤ x) ∧
  ∃ (p : Nat) (z s k : Int), H a = some (.lst [.ref c, .int (p : Int), .int z, .int s, .int k]) ∧ 0 ≤ z ∧ 0 ≤ s ∧ 0 ≤ k
theorem Hand.ne {a c : Addr} {cs : List Int} {H : Hp} (h : Hand a c cs H) : c ≠ a := by
  obtain ⟨h1, _, _, p, z, s, k, h2, _⟩ := h
  intro e
  subst e
  rw [h1] at h2
  injection h2 with h3
  injection h3 with h4
  cases cs with
  | nil => cases h4
  | cons x r =>
    injection h4 with h5 _
    cases h5
theorem Hand.lst {a c : Addr} {cs : List Int} {H : Hp} (h : Hand a c cs H) : ∃ xs, H a = some (.lst xs) := let ⟨_, _, _, _, _, _, _, h2, _⟩ := h; ⟨_, h2⟩
theorem Hand.same {a c : Addr} {cs : List Int} {H H' : Hp} (h : Hand a c cs H) (r : Same H H') : Hand a c cs H' :=
  let ⟨h1, h2, h3, p, z, s, k, h4, h5⟩ := h; ⟨r _ _ h1, h2, h3, p, z, s, k, r _ _ h4, h5⟩
theorem Hand.upd {a c : Addr} {cs : List Int} {H : Hp} (h : Hand a c cs H) {D : Addr} {o : HO} (n1 : D ≠ a) (n2 : D ≠ c) : Hand a c cs (upd H D o) :=
  let ⟨h1, h2, h3, p, z, s, k, h4, h5⟩ := h; ⟨by rw [upd_ne n2.symm]; exact h1, h2, h3, p, z, s, k, by rw [upd_ne n1.symm]; exact h4, h5⟩
theorem Hand.im {a c : Addr} {cs : List Int} {H H' : Hp} (h : Hand a c cs H) (r : Keep a H H') : Im H H' := let ⟨_, e⟩ := h.lst; r.imL e
/-- a turn that draws -/
theorem rk_hand {a c : Addr} {cs : List Int} {H1 : Hp} {D : Addr} (n : H1 D = none) (h : Hand a c cs H1) : Rk (Keep a) (Hand a c cs) H1 D := by
  obtain ⟨xs, ea⟩ := h.lst
  have nDa : D ≠ a := (ne_of_none ea n).symm
  have nDc : D ≠ c := (ne_of_none h.1 n).symm
  exact {
    start := fun _ => same_keep (same_new n)
    trans := fun _ _ => Keep.trans
    keepD := fun H H' o _ _ r e => r _ _ nDa e
    mutD := fun _ _ r => r.mut n
    sD := fun _ _ _ _ s _ => s.upd nDa nDc
    im := fun _ _ s r => s.im r }
theorem lc_hand {J : It} {n : Nat} {G : Hp → Prop} {Y : Nat → Hp → V → Hp → Prop} (w : Walk J n G Y) {g : TG} {tt : TT} {te : TE} {vs : List Nat} {σ : L2.St} {H1 : Hp} {D : Addr} {Qd : Hp → Prop} {β : Type} {a c : Addr} {cs : List Int}
    (R : V → β → Hp → Prop) (A : Nat → List β → Prop) (n1 : H1 D = none) (hh : Hand a c cs H1) (hR : ∀ y d H H', Im H H' → R y d H → R y d H') (hA : A 0 []) (hG : ∀ H, Keep a H1 H → Hand a c cs H → G H) (hn : n ≤ 100000)
    (turn : ∀ i x H H' ds, i < n → Keep a H1 H → Hand a c cs H → A i ds → ds.length ≤ i → Y i H x H' → ∀ (Qt : V → Hp → Prop) (Qf : Hp → Prop),
      (∀ y d H4, Keep a H H4 → Hand a c cs H4 → R y d H4 → A (i + 1) (ds ++ [d]) → Qt y H4) → (∀ H3, Keep a H H3 → Hand a c cs H3 → A (i + 1) ds → Qf H3) →
      g x (wipe σ vs) H' fun σ2 H2 => wipe σ2 vs = wipe σ vs ∧ tt σ2 H2 fun b H3 => if b = true then te σ2 H3 Qt else Qf H3)
    (hd : ∀ H' ys ds, Keep a H1 H' → Hand a c cs H' → H' D = some (.lst ys) → Paired (fun y d => R y d H') ys ds → A n ds → ds.length ≤ n → Qd H') :
    ∃ W : Nat → Nat → Hp → Prop, (∃ m, W 0 m (upd H1 D (.lst []))) ∧ ∀ i m H, W i m H →
      (J.stop i H ∧ Qd H) ∨ (J.go i H ∧ ∃ Nx : Hp → Prop, (∀ H', Nx H' → ∃ m', m' < m ∧ W (i + 1) m' H') ∧ ∀ x H', J.yld i H x H' → g x (wipe σ vs) H' fun σ2 H2 => wipe σ2 vs = wipe σ vs ∧ tt σ2 H2 fun b H3 =>
        if b = true then te σ2 H3 fun y H4 => ∃ acc, H4 D = some (.lst acc) ∧ acc.length < sizeLine ∧ Nx (upd H4 D (.lst (acc ++ [y]))) else Nx H3) :=
  lc_acc w (Keep a) (Hand a c cs) R A (rk_hand n1 hh) hR hA (hh.same (same_new n1)) hG hn turn hd
theorem cut_63 {xs : List V} (h : xs.length ≤ 63) : cutV xs none (some 63) = xs := by
  unfold cutV
  rw [HT.sIx_none, List.drop_zero, show HT.sIx xs.length xs.length (some 63) = min 63 xs.length from HT.sIx_nat xs.length xs.length 63]
  exact List.take_of_length_le (by omega)
section
variable {P : Program} {w : World} {K : PySem.W.Frag} {mg : Str → Option Value} {base : Heap}
def sp_law_hand (K : PySem.W.Frag) : Sp := fun vs H Q _ => ∃ l, ∃ ns : List Int, vs = [.ref l] ∧ SqL K H l (ns.map V.int) ∧ ns.length ≤ 63 ∧ ∀ H' a c cs, Same H H' → Hand a c cs H' → Q (.ref a) H'
theorem ok_law_hand (T : Txt K mg) : FnOk P w K mg base CX0 1 (He.ga K "_law_hand") (fdOf K ("_law_hand", none)) ["_law_script"] (sp_law_hand K) := by
  refine okF T.d_law_hand.fn sc_law_hand (fun vs H Q E h => ?_) (fun cdv A outer s H vs Q E hr h => ?_)
  · obtain ⟨l, ns, rfl, _⟩ := h; rfl
  · obtain ⟨l, ns, rfl, hl, hn, k⟩ := h
    refine ⟨_, pss_cons (ps_setLc (i := 1) (own := [("_law_cell", 2)]) (g := gName 2) rfl sc_law_hand.nd rfl rfl (sw_true rfl rfl rfl (by decide +kernel)) (pi_list (pe_slice sl_list (pv 0) po_none (po_some pe_int))) (blkOk_by (N := ["_law_script", "_law_cells", "_law_cell"]) (sc := defScope s_law_hand) (by decide +kernel))
        (fun _ _ _ _ _ => pg_name (i := 2) sc_law_hand.nd rfl (Or.inl rfl)) (fun _ _ _ _ _ => pts_nil) (fun _ _ _ _ _ => pe_callB call_abs (by rfl) T.m_abs bt_abs (pa_cons (pe_callTy call_int1 (by rfl) T.m_int bt_int (pa_cons (pv 2) pa_nil)) pa_nil)))
      (pss_one (ps_ret (pe_lst (pa_cons (pv 1) (pa_cons pe_int (pa_cons pe_int (pa_cons (pe_op op_add pe_int (pe_callB call_len_seq (by rfl) T.m_len PySem.boot_len (pa_cons (pv 1) pa_nil))) (pa_cons pe_int pa_nil)))))))), ?_⟩
    refine ⟨_, rfl, 63, rfl, l, _, rfl, hl, fun b nb => ?_⟩
    rw [cut_63 (by rw [List.length_map]; exact hn)]
    have s1 : Same H (L2.upd H b (.lst (ns.map V.int))) := same_new nb
    refine ⟨b, rfl, ⟨_, SqL.of upd_same⟩, fun D hD => ?_⟩
    refine lc_map walk_list (fun y (d : Int) _ => y = V.int d) (fun i => (fun j : Int => if j < 0 then -j else j) (ns.getD i 0)) hD (fun _ _ _ _ _ h => h) (fun H' r => SqL.of (r _ _ upd_same)) (by rw [List.length_map]; omega) ?_ ?_
    · rintro i x H1 _ hi r ⟨rfl, e⟩ Qt q
      obtain ⟨j, hj, rfl⟩ := map_int_get e
      refine ⟨rfl, _, rfl, .inl ⟨j, rfl, j, rfl, q _ _ (Same.refl _) ?_⟩⟩
      rw [show ns.getD i 0 = j by rw [List.getD_eq_getElem?_getD, hj]; rfl]
    · intro H1 ys r e p
      have ey := paired_map p
      subst ey
      rw [List.length_map, range_map_getF (0 : Int) ns (fun j : Int => if j < 0 then -j else j)] at e
      refine ⟨_, rfl, _, rfl, D, _, rfl, .inl (SqL.of e), _, _, rfl, rfl, by show 5 ≤ sizeLine; decide, fun a na => ?_⟩
      have s2 := (s1.trans r).trans (same_new (o := .lst [.ref D, .int 0, .int 0, .int (1 + (((ns.map fun j : Int => if j < 0 then -j else j).map V.int).length : Int)), .int 0]) na)
      refine k _ a D (ns.map fun j : Int => if j < 0 then -j else j) s2 ⟨same_new na _ _ e, by rw [List.length_map]; exact hn, fun x hx => ?_, 0, 0, _, 0, upd_same, by decide, by omega, by decide⟩
      obtain ⟨j, _, rfl⟩ := List.mem_map.mp hx
      show 0 ≤ if j < 0 then -j else j
      split <;> omega
def sp_draw : Sp := fun vs H Q _ => ∃ a c cs, ∃ m : Int, vs = [.ref a, .int m] ∧ Hand a c cs H ∧ 1 ≤ m ∧ m ≤ 1000 ∧ ∀ H' r, Keep a H H' → Hand a c cs H' → 0 ≤ r → r < m → Q (.int r) H'
theorem ok_draw (T : Txt K mg) : FnOk P w K mg base CX0 1 (He.ga K "_law_draw") (fdOf K ("_law_draw", none)) ["_law_hand_here", "_law_many"] sp_draw := by
  refine okF T.d_law_draw.fn sc_law_draw (fun vs H Q E h => ?_) (fun cdv A outer s H vs Q E hr h => ?_)
  · obtain ⟨a, c, cs, m, rfl, _⟩ := h; rfl
  · obtain ⟨a, c, cs, m, rfl, hh, m1, m2, k⟩ := h
    refine ⟨_, C8.pss_cut (ps_if (PW.pt (pw_and (pt_cmpR op_eq (pe_ix ix_list (pv 0) pe_int (fun _ _ => rfl)) pe_int (nomark _))
        (pw_and1 (pt_cmpR op_lt (pe_ix ix_list (pv 0) pe_int (fun _ _ => rfl)) (pe_callB call_len_seq (by rfl) T.m_len PySem.boot_len (pa_cons (pe_ix ix_list (pv 0) pe_int (fun _ _ => rfl)) pa_nil)) (nomark _)))))
        (pss_cons (ps_set (i := 2) sc_law_draw.nd rfl (.inl rfl) (pe_ix ix_list (pe_ix ix_list (pv 0) pe_int (fun _ _ => rfl)) (pe_ix ix_list (pv 0) pe_int (fun _ _ => rfl)) (fun _ _ => rfl)))
        (pss_cons (ps_asg (pe_op op_add (pe_ix ix_list (pv 0) pe_int (fun _ _ => rfl)) pe_int) (pg_sub (pv 0) pe_int set_list))
        (pss_cons (ps_asg (pe_op op_mod (pe_callTy call_int1 (by rfl) T.m_int bt_int (pa_cons (pe_op op_add (pe_op op_add (pe_op op_mul (pe_ix ix_list (pv 0) pe_int (fun _ _ => rfl)) pe_int) (pv 2)) pe_int) pa_nil)) pe_int) (pg_sub (pv 0) pe_int set_list))
        (pss_one (ps_if (pt_cmpR op_ge (pv 2) (pe_op op_pow pe_int pe_int) (nomark _)) (pss_one (ps_asg (pv 2) (pg_sub (pv 0) pe_int set_list))) pss_nil))))) pss_nil)
      (pss_cons (ps_if (pt_cmpR op_gt (pe_ix ix_list (pv 0) pe_int (fun _ _ => rfl)) pe_int (nomark _))
        (pss_cons (ps_set (i := 3) sc_law_draw.nd rfl (.inl rfl) (pe_op op_mod (pe_callTy call_int1 (by rfl) T.m_int bt_int (pa_cons (pe_ix ix_list (pv 0) pe_int (fun _ _ => rfl)) pa_nil)) (pv 1)))
        (pss_cons (ps_asg (pe_op op_fdiv (pe_ix ix_list (pv 0) pe_int (fun _ _ => rfl)) (pv 1)) (pg_sub (pv 0) pe_int set_list))
        (pss_one (ps_ret (pv 3))))) pss_nil)
      (pss_cons (ps_asg (pe_op op_add (pe_ix ix_list (pv 0) pe_int (fun _ _ => rfl)) pe_int) (pg_sub (pv 0) pe_int set_list))
      (pss_cons (ps_set (i := 4) sc_law_draw.nd rfl (.inl rfl) (pe_op op_mod (pe_callTy call_int1 (by rfl) T.m_int bt_int (pa_cons (pe_op op_mul (pe_callTy call_int1 (by rfl) T.m_int bt_int (pa_cons (pe_op op_add (pe_ix ix_list (pv 0) pe_int (fun _ _ => rfl)) (pe_op op_mul pe_int (pe_ix ix_list (pv 0) pe_int (fun _ _ => rfl)))) pa_nil)) pe_int) pa_nil)) pe_int))
      (pss_cons (ps_set (i := 4) sc_law_draw.nd rfl (.inl rfl) (pe_op op_mod (pe_callTy call_int1 (by rfl) T.m_int bt_int (pa_cons (pe_op op_mul (pv 4) (pe_op op_add (pe_op op_fdiv (pv 4) pe_int) pe_int)) pa_nil)) pe_int))
      (pss_cons (ps_set (i := 4) sc_law_draw.nd rfl (.inl rfl) (pe_op op_mod (pe_callTy call_int1 (by rfl) T.m_int bt_int (pa_cons (pe_op op_mul (pv 4) (pe_op op_add (pe_op op_fdiv (pv 4) pe_int) pe_int)) pa_nil)) pe_int))
      (pss_one (ps_ret (pe_op op_mod (pe_callTy call_int1 (by rfl) T.m_int bt_int (pa_cons (pe_op op_fdiv (pv 4) pe_int) pa_nil)) (pv 1))))))))), ?_⟩
    have hne := hh.ne
    obtain ⟨hc, hcl, hcs, p, z, sd, kk, ha, z0, s0, k0⟩ := id hh
    refine ⟨fun σ H1 => ∃ y2, σ = [some (.ref a), some (.int m), y2, none, none] ∧ Keep a H H1 ∧ Hand a c cs H1, ?_, ?_⟩
    · have skip : ∃ y2, ([some (.ref a), some (.int m), none, none, none] : L2.St) = [some (.ref a), some (.int m), y2, none, none] ∧ Keep a H H ∧ Hand a c cs H := ⟨none, rfl, Keep.refl _ _, hh⟩
      refine ⟨_, rfl, a, _, 2, _, rfl, rfl, SqL.of ha, rfl, rfl, _, rfl, ?_⟩
      by_cases hz : V.int z = V.int 0
      · refine iteB (decide_eq_true hz) ?_
        refine ⟨_, rfl, a, _, 1, _, rfl, rfl, SqL.of ha, rfl, _, rfl, a, _, 0, _, rfl, rfl, SqL.of ha, rfl, c, _, rfl, .inl (SqL.of hc), _, _, rfl, rfl, _, rfl, ?_⟩
        by_cases hp : p < cs.length
        · refine iteB (decide_eq_true (by rw [List.length_map]; omega)) ?_
          have hcp : cs[p]? = some cs[p] := List.getElem?_eq_getElem hp
          have c0 : 0 ≤ cs[p] := hcs _ (List.getElem_mem hp)
          refine ⟨_, rfl, a, _, 0, _, rfl, rfl, SqL.of ha, rfl, _, rfl, a, _, 1, _, rfl, rfl, SqL.of ha, rfl, c, _, _, .int cs[p], rfl, rfl, SqL.of hc, atI_nat (get_map_int hcp), ?_⟩
          -- hand[1]
          refine ⟨_, rfl, a, _, 1, _, rfl, rfl, SqL.of ha, rfl, _, _, rfl, rfl, _, rfl, a, _, 1, 1, rfl, rfl, ha, rfl, ?_⟩
          -- hand[3]
          refine ⟨_, rfl, a, _, 3, .int sd, rfl, rfl, SqL.of upd_same, rfl, _, _, rfl, rfl, .inr ⟨by decide, by decide⟩, _, rfl, _, _, rfl, rfl, _, _, rfl, rfl, .inl ⟨_, rfl, _, _, rfl, rfl, (by show (0 : Int) < 2147483629; decide), ?_⟩⟩
          refine ⟨_, rfl, a, _, 3, 3, rfl, rfl, upd_same, rfl, ?_⟩
          have m0 : 0 ≤ (sd * 69621 + cs[p] + 11) % 2147483629 := Int.emod_nonneg _ (by decide)
          refine ⟨_, rfl, _, _, rfl, rfl, ⟨by decide, by decide, by decide⟩, _, _, rfl, rfl, _, rfl, ?_⟩
          refine ite2 (fun _ => ?_) (fun _ => ?_)
          · refine ⟨_, rfl, _, rfl, a, _, 2, 2, rfl, rfl, upd_same, rfl, ?_⟩
            refine ⟨_, rfl, keep_upd.put.put, ?_, hcl, hcs, p + 1, cs[p], (sd * 69621 + cs[p] + 11) % 2147483629, kk, upd_same, c0, m0, k0⟩
            rw [upd_ne hne, upd_ne hne, upd_ne hne]; exact hc
          · refine ⟨_, rfl, keep_upd.put, ?_, hcl, hcs, p + 1, z, (sd * 69621 + cs[p] + 11) % 2147483629, kk, upd_same, z0, m0, k0⟩
            rw [upd_ne hne, upd_ne hne]; exact hc
        · refine iteN (decide_eq_false (by rw [List.length_map]; omega)) ?_
          exact skip
      · refine iteN (decide_eq_false hz) ?_
        refine iteF ?_
        exact skip
    · rintro _ H1 ⟨y2, rfl, r1, hh1⟩
      obtain ⟨hc, hcl, hcs, p, z, sd, kk, ha, z0, s0, k0⟩ := id hh1
      refine ⟨_, rfl, a, _, 2, _, rfl, rfl, SqL.of ha, rfl, _, _, rfl, rfl, _, rfl, ?_⟩
      refine ite2 (fun _ => ?_) (fun _ => ?_)
      · refine ⟨_, rfl, a, _, 2, _, rfl, rfl, SqL.of ha, rfl, .inl ⟨_, rfl, _, rfl, _, _, rfl, rfl, (by show (0 : Int) < m; omega), ?_⟩⟩
        refine ⟨_, rfl, a, _, 2, _, rfl, rfl, SqL.of ha, rfl, _, rfl, _, _, rfl, rfl, ⟨(by show (0 : Int) < m; omega), by omega⟩, _, rfl, a, _, 2, 2, rfl, rfl, ha, rfl, ?_⟩
        refine ⟨_, rfl, k _ _ r1.put ⟨by rw [upd_ne hne]; exact hc, hcl, hcs, p, z / m, sd, kk, upd_same, Int.ediv_nonneg z0 (by omega), s0, k0⟩ (Int.emod_nonneg _ (by omega)) (Int.emod_lt_of_pos _ (by omega))⟩
      · refine ⟨_, rfl, a, _, 4, _, rfl, rfl, SqL.of ha, rfl, _, _, rfl, rfl, _, rfl, a, _, 4, 4, rfl, rfl, ha, rfl, ?_⟩
        have hh2 : Hand a c cs (L2.upd H1 a (.lst [.ref c, .int (p : Int), .int z, .int sd, .int (kk + 1)])) := ⟨by rw [upd_ne hne]; exact hc, hcl, hcs, p, z, sd, kk + 1, upd_same, z0, s0, by omega⟩
        refine ⟨_, rfl, a, _, 3, .int sd, rfl, rfl, SqL.of upd_same, rfl, _, rfl, a, _, 4, .int (kk + 1), rfl, rfl, SqL.of upd_same, rfl, _, _, rfl, rfl, .inl ⟨by decide, by decide⟩, _, _, rfl, rfl, .inl ⟨_, rfl, _, _, rfl, rfl, .inr ⟨by decide, by decide⟩, .inl ⟨_, rfl, _, _, rfl, rfl, (by show (0 : Int) < 2147483647; decide), ?_⟩⟩⟩
        generalize hn1 : (sd + 7919 * (kk + 1)) * 48271 % 2147483647 = n1
        have b1 : 0 ≤ n1 ∧ n1 < 2147483647 := by rw [← hn1]; exact ⟨Int.emod_nonneg _ (by decide), Int.emod_lt_of_pos _ (by decide)⟩
        refine ⟨_, rfl, _, rfl, _, _, rfl, rfl, ⟨by decide, by decide⟩, _, _, rfl, rfl, _, _, rfl, rfl, .inl ⟨by omega, by omega⟩, .inl ⟨_, rfl, _, _, rfl, rfl, (by show (0 : Int) < 2147483647; decide), ?_⟩⟩
        generalize hn2 : n1 * (n1 / 1009 + 69621) % 2147483647 = n2
        have b2 : 0 ≤ n2 ∧ n2 < 2147483647 := by rw [← hn2]; exact ⟨Int.emod_nonneg _ (by decide), Int.emod_lt_of_pos _ (by decide)⟩
        refine ⟨_, rfl, _, rfl, _, _, rfl, rfl, ⟨by decide, by decide⟩, _, _, rfl, rfl, _, _, rfl, rfl, .inl ⟨by omega, by omega⟩, .inl ⟨_, rfl, _, _, rfl, rfl, (by show (0 : Int) < 2147483399; decide), ?_⟩⟩
        refine ⟨_, rfl, _, _, rfl, rfl, ⟨by decide, by decide⟩, .inl ⟨_, rfl, _, rfl, _, _, rfl, rfl, (by show (0 : Int) < m; omega), ?_⟩⟩
        exact k _ _ r1.put hh2 (Int.emod_nonneg _ (by omega)) (Int.emod_lt_of_pos _ (by omega))
end
end GA
/-! GaDrawn: _law_wires, _law_web, _law_shuffled. -/
namespace GA
open PySem PySem.Spec PyProof.Rows L2
theorem walk_r0 {n : Nat} : Walk (Itr 0 n) n (fun _ => True) (fun i H x H' => H' = H ∧ x = V.int (i : Int)) :=
  ⟨fun _ _ hi _ => hi, fun _ _ => Nat.le_refl _, fun i _ _ _ _ _ y => ⟨y.1, by have e := y.2; rw [Int.zero_add] at e; exact e⟩⟩
/-- the wires out of y, so far -/
def RowA (y : Int) (i : Nat) (ds : List (List Int)) : Prop := (∀ l ∈ ds, ∃ x, l = [y, x] ∧ 0 ≤ x ∧ x < (i : Int) ∧ x ≠ y) ∧ ds.Pairwise fun a b => HT.lexLt a b = true
theorem RowA.add {y : Int} {i : Nat} {ds : List (List Int)} (h : RowA y i ds) (hy : (i : Int) ≠ y) : RowA y (i + 1) (ds ++ [[y, (i : Int)]]) := by
  refine ⟨fun l hl => ?_, ?_⟩
  · rcases List.mem_append.mp hl with hl | hl
    · obtain ⟨x, h1, h2, h3, h4⟩ := h.1 l hl
      exact ⟨x, h1, h2, by omega, h4⟩
    · rw [List.mem_singleton.mp hl]
      exact ⟨i, rfl, by omega, by omega, hy⟩
  · rw [List.pairwise_append]
    refine ⟨h.2, List.pairwise_singleton _ _, fun a ha b hb => ?_⟩
    rw [List.mem_singleton.mp hb]
    obtain ⟨x, h1, h2, h3, h4⟩ := h.1 a ha
    rw [h1]
    show (if y = y then HT.lexLt [x] [(i : Int)] else decide (y < y)) = true
    rw [if_pos rfl]
    show (if x = (i : Int) then HT.lexLt [] [] else decide (x < (i : Int))) = true
    rw [if_neg (by omega)]
    exact decide_eq_true h3
theorem RowA.next {y : Int} {i : Nat} {ds : List (List Int)} (h : RowA y i ds) : RowA y (i + 1) ds :=
  ⟨fun l hl => let ⟨x, h1, h2, h3, h4⟩ := h.1 l hl; ⟨x, h1, h2, by omega, h4⟩, h.2⟩
/-- the wires out of the first i machines of m -/
def WirA (m i : Nat) (ls : List (List Int)) : Prop := (∀ l ∈ ls, ∃ y x, l = [y, x] ∧ 0 ≤ y ∧ y < (i : Int) ∧ 0 ≤ x ∧ x < (m : Int) ∧ y ≠ x) ∧ ls.Pairwise (fun a b => HT.lexLt a b = true) ∧ ls.length ≤ i * m
theorem WirA.add {m i : Nat} {ls ds : List (List Int)} (h : WirA m i ls) (r : RowA (i : Int) m ds) (hl : ds.length ≤ m) : WirA m (i + 1) (ls ++ ds) := by
  refine ⟨fun l hl => ?_, ?_, by rw [List.length_append, Nat.succ_mul]; have := h.2.2; omega⟩
  · rcases List.mem_append.mp hl with hl | hl
    · obtain ⟨y, x, h1, h2, h3, h4, h5, h6⟩ := h.1 l hl
      exact ⟨y, x, h1, h2, by omega, h4, h5, h6⟩
    · obtain ⟨x, h1, h2, h3, h4⟩ := r.1 l hl
      exact ⟨i, x, h1, by omega, by omega, h2, h3, fun e => h4 e.symm⟩
  · rw [List.pairwise_append]
    refine ⟨h.2.1, r.2, fun a ha b hb => ?_⟩
    obtain ⟨y, x, rfl, h2, h3, h4, h5, h6⟩ := h.1 a ha
    obtain ⟨x', rfl, _⟩ := r.1 b hb
    show (if y = (i : Int) then HT.lexLt [x] [x'] else decide (y < (i : Int))) = true
    rw [if_neg (by omega)]
    exact decide_eq_true h3
theorem WirA.ok {m : Nat} {ls : List (List Int)} (h : WirA m m ls) : WiresOk (m : Int) ls := by
  refine ⟨fun l hl => ?_, fun i l l' h1 h2 => ?_⟩
  · obtain ⟨y, x, h1, h2, h3, h4, h5, h6⟩ := h.1 l hl
    exact ⟨y, x, h1, h2, by omega, h4, by omega, h6⟩
  · obtain ⟨a1, a2⟩ := List.getElem?_eq_some_iff.mp h1
    obtain ⟨b1, b2⟩ := List.getElem?_eq_some_iff.mp h2
    have := List.pairwise_iff_getElem.mp h.2.1 i (i + 1) a1 b1 (Nat.lt_succ_self i)
    rw [a2, b2] at this
    exact this
section
variable {P : Program} {w : World} {K : PySem.W.Frag} {mg : Str → Option Value} {base : Heap}
def sp_wires : Sp := fun vs H Q _ => ∃ a c cs, ∃ m : Nat, ∃ sh : Int, vs = [.ref a, .int (m : Int), .int sh] ∧ Hand a c cs H ∧ m ≤ 7 ∧ ∀ H' r xs ls, Keep a H H' → Hand a c cs H' → H' r = some (.lst xs) → Paired (TI H') xs ls → WiresOk (m : Int) ls → ls.length ≤ 49 → Q (.ref r) H'
theorem ok_wires (T : Txt K mg) : FnOk P w K mg base CX0 2 (He.ga K "_law_wires") (fdOf K ("_law_wires", none)) ["_law_hand_here", "_law_machines", "_law_share"] sp_wires := by
  refine okF T.d_law_wires.fn sc_law_wires (fun vs H Q E h => ?_) (fun cdv A outer s H vs Q E hr h => ?_)
  · obtain ⟨a, c, cs, m, sh, rfl, _⟩ := h; rfl
  · obtain ⟨a, c, cs, m, sh, rfl, hh, m7, k⟩ := h
    refine ⟨_, pss_cons (ps_set (i := 3) sc_law_wires.nd rfl (.inl rfl) (pe_lst pa_nil))
      (pss_cons (ps_for PassesOwn.never rfl (pi_range1 (by rfl) T.m_range (pa_cons (pv 1) pa_nil)) (pg_name (i := 4) sc_law_wires.nd rfl (Or.inr rfl))
        (pss_one (ps_expr (pe_bm PySem.F.plainAttrs_list PySem.F.slot_list_extend PySem.F.type_list_extend mt_extend (pv 3) (pa_cons
          (pe_lc (own := [("_law_x", 5)]) (g := gName 5) rfl sc_law_wires.nd (pi_range1 (by rfl) T.m_range (pa_cons (pv 1) pa_nil)) (blkOk_by (N := ["_law_hand_here", "_law_machines", "_law_share", "_law_found", "_law_y", "_law_x"]) (sc := defScope s_law_wires) (by decide +kernel))
            (fun _ _ _ _ _ => pg_name (i := 5) sc_law_wires.nd rfl (Or.inl rfl))
            (fun _ _ _ _ _ => pts_one (PW.pt (pw_and (pt_cmpR op_ne (pv 5) (pv 4) (nomark _)) (pw_and1 (pt_cmpR op_lt (pe_d T.d_law_draw (ok_draw T) hr (pa_cons (pv 0) (pa_cons pe_int pa_nil))) (pv 2) (nomark _))))))
            (fun _ _ _ _ _ => pe_tup (pa_cons (pv 4) (pa_cons (pv 5) pa_nil)))) pa_nil)))))
      (pss_one (ps_ret (pv 3)))), ?_⟩
    refine ⟨Nat.zero_le _, fun f nf => ?_⟩
    have nfa : f ≠ a := by obtain ⟨_, e⟩ := hh.lst; exact (ne_of_none e nf).symm
    have s1 : Same H (L2.upd H f (.lst [])) := same_new nf
    refine ⟨_, rfl, _, rfl, by omega, by omega, for_it walk_r0 (fun i σ H' => ∃ y4 xs ls, σ = [some (.ref a), some (.int (m : Int)), some (.int sh), some (.ref f), y4, none] ∧ Keep a H H' ∧ Hand a c cs H' ∧ H' f = some (.lst xs) ∧ Paired (TI H') xs ls ∧ WirA m i ls)
      ⟨none, [], [], rfl, same_keep s1, hh.same s1, upd_same, .nil, fun _ h => (nomatch h), .nil, by simp⟩ (fun _ _ _ _ _ => trivial) ?_ ?_⟩
    · rintro i _ _ H1 _ hi ⟨y4, xs, ls, rfl, r1, h1, e1, p1, w1⟩ ⟨rfl, rfl⟩
      have him : i < m := by omega
      refine ⟨_, rfl, .inl ⟨rfl, _, SqL.of e1⟩, _, rfl, _, rfl, by omega, by omega, fun D hD => ?_⟩
      refine lc_hand walk_r0 (fun y (d : List Int) H => TI H y d) (fun j ds => RowA (i : Int) j ds) hD h1 (fun _ _ _ _ k h => h.im k) ⟨fun _ h => (nomatch h), .nil⟩ (fun _ _ _ => trivial) (by omega) ?_ ?_
      · rintro j _ H2 _ ds hj r2 h2 hA hl ⟨rfl, rfl⟩ Qt Qf q1 q2
        refine ⟨rfl, _, rfl, _, rfl, rfl, _, rfl, ?_⟩
        by_cases hji : (j : Int) = (i : Int)
        · refine iteN (by rw [decide_eq_true (by rw [hji])]; rfl) ?_
          refine iteF ?_
          exact q2 _ (Keep.refl _ _) h2 hA.next
        · refine iteB (by rw [decide_eq_false (fun e => hji (V.int.inj e))]; rfl) ?_
          refine ⟨_, rfl, a, c, cs, 6, rfl, h2, by decide, by decide, fun H3 r r3 h3 r0 r6 => ?_⟩
          refine ⟨_, rfl, _, _, rfl, rfl, _, rfl, ?_⟩
          refine ite2 (fun _ => ?_) (fun _ => ?_)
          · refine ⟨_, rfl, _, rfl, by show 2 ≤ sizeLine; decide, fun t nt => ?_⟩
            exact q1 _ _ _ (r3.mut (r3.none (by obtain ⟨_, e⟩ := h3.lst; exact (ne_of_none e nt).symm) nt)) (h3.same (same_new nt)) ⟨t, rfl, upd_same⟩ (hA.add hji)
          · exact q2 _ r3 h3 hA.next
      · intro H2 ys ds r2 h2 e2 p2 hA hl
        have e3 : H2 f = some (.lst xs) := r2 _ _ nfa e1
        have hys := p2.length
        have hxs := p1.length
        have hw := w1.2.2
        have him2 : i * m ≤ 7 * 7 := Nat.mul_le_mul (by omega) m7
        have hdm : ds.length ≤ m := by omega
        refine ⟨f, D, xs, ys, rfl, rfl, e3, e2, size_ok (by omega), ?_⟩
        refine ⟨_, xs ++ ys, ls ++ ds, rfl, (r1.trans r2).mut nf, h2.upd nfa (ne_of_none hh.1 nf).symm, upd_same, ?_, w1.add (by simpa using hA) hdm⟩
        exact paired_append (pti_im p1 ((h1.im r2).trans (im_lst e3))) (pti_im p2 (im_lst e3))
    · rintro _ H1 ⟨y4, xs, ls, rfl, r1, h1, e1, p1, w1⟩
      have w2 : WirA m m ls := by simpa using w1
      have hw := w2.2.2
      have him2 : m * m ≤ 7 * 7 := Nat.mul_le_mul m7 m7
      exact ⟨_, rfl, k H1 f xs ls r1 h1 e1 p1 w2.ok (by omega)⟩
def sp_law_web : Sp := fun vs H Q _ => ∃ a c cs, vs = [.ref a, .int 7] ∧ Hand a c cs H ∧ ∀ H' r wv, ∀ m : Int, ∀ ls, Keep a H H' → Hand a c cs H' → H' r = some (.tup [.int m, wv]) → TTI H' wv ls → 1 ≤ m → m ≤ 7 → WiresOk m ls → ls.length ≤ 49 → Q (.ref r) H'
theorem Hand.nn {a c : Addr} {cs : List Int} {H : Hp} (h : Hand a c cs H) {t : Addr} (n : H t = none) : t ≠ a := by obtain ⟨_, e⟩ := h.lst; exact (ne_of_none e n).symm
/-- what is new stays so behind a draw -/
theorem Hand.new {a c : Addr} {cs : List Int} {H H' : Hp} (h : Hand a c cs H') (r : Keep a H H') {t : Addr} {o : HO} (n : H' t = none) : Keep a H (L2.upd H' t o) ∧ Hand a c cs (L2.upd H' t o) :=
  ⟨r.mut (r.none (h.nn n) n), h.same (same_new n)⟩
theorem ok_law_web (T : Txt K mg) : FnOk P w K mg base CX0 3 (He.ga K "_law_web") (fdOf K ("_law_web", none)) ["_law_hand_here", "_law_most"] sp_law_web := by
  refine okF T.d_law_web.fn sc_law_web (fun vs H Q E h => ?_) (fun cdv A outer s H vs Q E hr h => ?_)
  · obtain ⟨a, c, cs, rfl, _⟩ := h; rfl
  · obtain ⟨a, c, cs, rfl, hh, k⟩ := h
    refine ⟨_, pss_cons (ps_set (i := 2) sc_law_web.nd rfl (.inl rfl) (pe_op op_add pe_int (pe_d T.d_law_draw (ok_draw T) (hr.mono (by decide)) (pa_cons (pv 0) (pa_cons (pv 1) pa_nil)))))
      (pss_one (ps_ret (pe_tup (pa_cons (pv 2) (pa_cons (pe_callTy call_tuple_of (by rfl) T.m_tuple bt_tuple (pa_cons
        (pe_d T.d_law_wires (ok_wires T) hr (pa_cons (pv 0) (pa_cons (pv 2) (pa_cons (pe_op op_add pe_int (pe_d T.d_law_draw (ok_draw T) (hr.mono (by decide)) (pa_cons (pv 0) (pa_cons pe_int pa_nil)))) pa_nil)))) pa_nil)) pa_nil))))), ?_⟩
    refine ⟨_, rfl, _, rfl, a, c, cs, 7, rfl, hh, by decide, by decide, fun H1 r r1 h1 d0 d7 => ⟨_, _, rfl, rfl, ?_⟩⟩
    obtain ⟨m, hm⟩ : ∃ m : Nat, 1 + r = (m : Int) := ⟨(1 + r).toNat, by omega⟩
    show gName 2 (V.int (1 + r)) _ H1 _
    rw [hm]
    refine ⟨_, rfl, _, rfl, _, rfl, _, rfl, a, c, cs, 5, rfl, h1, by decide, by decide, fun H2 sh r2 h2 _ _ => ⟨_, _, rfl, rfl, ?_⟩⟩
    refine ⟨a, c, cs, m, _, rfl, h2, by omega, fun H3 f xs ls r3 h3 e3 p3 w3 l3 => ⟨f, xs, rfl, .inl ⟨SqL.of e3, fun t nt => ⟨by show 2 ≤ sizeLine; decide, fun q nq => ?_⟩⟩⟩⟩
    have r30 := (r1.trans r2).trans r3
    obtain ⟨r4, h4⟩ := h3.new r30 (o := .tup xs) nt
    obtain ⟨r5, h5⟩ := h4.new r4 (o := .tup [.int (m : Int), .ref t]) nq
    have s4 : Same H3 (L2.upd H3 t (.tup xs)) := same_new nt
    have s5 : Same (L2.upd H3 t (.tup xs)) (L2.upd (L2.upd H3 t (.tup xs)) q (.tup [.int (m : Int), .ref t])) := same_new nq
    exact k _ q (.ref t) m ls r5 h5 upd_same ⟨t, xs, rfl, s5 _ _ upd_same, pti_im p3 (same_im (s4.trans s5))⟩ (by omega) (by omega) w3 l3
theorem seqIx {n i : Nat} (h : i < n) : seqIndex? (i : Int) n = some i := by
  refine (ixN_seq (n := n) (i := (i : Int)) (j := i) ?_).1
  unfold ixN
  rw [if_pos (by omega), if_pos (by omega), Int.toNat_natCast]
theorem erase_map : ∀ (ls : List Int) (i : Nat), (ls.map V.int).eraseIdx i = (ls.eraseIdx i).map V.int
  | [], _ => rfl
  | _ :: _, 0 => rfl
  | x :: r, i + 1 => by
    show V.int x :: (r.map V.int).eraseIdx i = V.int x :: (r.eraseIdx i).map V.int
    rw [erase_map r i]
theorem perm_erase : ∀ (ls : List Int) (i : Nat) (x : Int), ls[i]? = some x → (x :: ls.eraseIdx i).Perm ls
  | [], _, _, h => by simp at h
  | y :: r, 0, x, h => by
    have e : y = x := Option.some.inj h
    subst e
    exact List.Perm.refl _
  | y :: r, i + 1, x, h => by
    have ih := perm_erase r i x h
    show (x :: y :: r.eraseIdx i).Perm (y :: r)
    exact (List.Perm.swap y x _).trans (ih.cons y)
def sp_shuf : Sp := fun vs H Q _ => ∃ a c cs l, ∃ ns : List Int, vs = [.ref a, .ref l] ∧ Hand a c cs H ∧ H l = some (.lst (ns.map V.int)) ∧ ns.length ≤ 100 ∧ ∀ H' r, ∀ us : List Int, Keep a H H' → Hand a c cs H' → H' r = some (.lst (us.map V.int)) → us.Perm ns → Q (.ref r) H'
theorem ok_shuf (T : Txt K mg) : FnOk P w K mg base CX0 2 (He.ga K "_law_shuffled") (fdOf K ("_law_shuffled", none)) ["_law_hand_here", "_law_things"] sp_shuf := by
  refine okF T.d_law_shuffled.fn sc_law_shuffled (fun vs H Q E h => ?_) (fun cdv A outer s H vs Q E hr h => ?_)
  · obtain ⟨a, c, cs, l, ns, rfl, _⟩ := h; rfl
  · obtain ⟨a, c, cs, l, ns, rfl, hh, hl, hn, k⟩ := h
    refine ⟨_, pss_cons (ps_set (i := 2) sc_law_shuffled.nd rfl (.inl rfl) (pe_callTy call_list_of (by rfl) T.m_list bt_list (pa_cons (pv 1) pa_nil)))
      (pss_cons (ps_set (i := 3) sc_law_shuffled.nd rfl (.inl rfl) (pe_lst pa_nil))
      (pss_cons (ps_while PassesOwn.never (pt_cmpR op_gt (pe_callB call_len_seq (by rfl) T.m_len PySem.boot_len (pa_cons (pv 2) pa_nil)) pe_int (nomark _))
        (pss_one (ps_expr (pe_bm PySem.F.plainAttrs_list PySem.F.slot_list_append PySem.F.type_list_append mt_append (pv 3) (pa_cons
          (pe_bm PySem.F.plainAttrs_list PySem.F.slot_list_pop PySem.F.type_list_pop mt_popAt (pv 2) (pa_cons
            (pe_d T.d_law_draw (ok_draw T) hr (pa_cons (pv 0) (pa_cons (pe_callB call_len_seq (by rfl) T.m_len PySem.boot_len (pa_cons (pv 2) pa_nil)) pa_nil))) pa_nil)) pa_nil)))))
      (pss_one (ps_ret (pv 3))))), ?_⟩
    refine ⟨_, rfl, l, _, rfl, .inl (SqL.of hl), fun f nf => ⟨Nat.zero_le _, fun g ng => ?_⟩⟩
    obtain ⟨r1, h1⟩ := hh.new (Keep.refl _ _) (o := .lst (ns.map V.int)) nf
    obtain ⟨r2, h2⟩ := h1.new r1 (o := .lst []) ng
    have nfa := hh.nn nf
    have nga := h1.nn ng
    have ngf : g ≠ f := fun e => by rw [e, upd_same] at ng; cases ng
    have nfc : f ≠ c := (ne_of_none hh.1 nf).symm
    have ngc : g ≠ c := (ne_of_none h1.1 ng).symm
    have nf0 : H f = none := nf
    have ng0 : H g = none := by rw [upd_ne ngf] at ng; exact ng
    refine ⟨fun n σ H' => ∃ ls us : List Int, σ = [some (.ref a), some (.ref l), some (.ref f), some (.ref g)] ∧ Keep a H H' ∧ Hand a c cs H' ∧ H' f = some (.lst (ls.map V.int)) ∧ H' g = some (.lst (us.map V.int)) ∧ (us ++ ls).Perm ns ∧ n = ls.length,
      ⟨ns.length, ns, [], rfl, r2, h2, by rw [upd_ne ngf.symm]; exact upd_same, upd_same, List.Perm.refl _, rfl⟩, ?_⟩
    rintro _ _ H1 ⟨ls, us, rfl, r3, h3, ef, eg, hp, rfl⟩
    have hlen := hp.length_eq
    rw [List.length_append] at hlen
    refine ⟨_, rfl, f, _, rfl, .inl (SqL.of ef), _, _, rfl, rfl, _, rfl, ?_⟩
    by_cases h0 : 0 < ls.length
    · refine iteB (decide_eq_true (by rw [List.length_map]; omega)) ?_
      refine ⟨fun σ' H' => ∃ ls' us' : List Int, σ' = [some (.ref a), some (.ref l), some (.ref f), some (.ref g)] ∧ Keep a H H' ∧ Hand a c cs H' ∧ H' f = some (.lst (ls'.map V.int)) ∧ H' g = some (.lst (us'.map V.int)) ∧ (us' ++ ls').Perm ns ∧ ls'.length < ls.length,
        fun σ' H' q => let ⟨ls', us', q1, q2, q3, q4, q5, q6, q7⟩ := q; ⟨ls'.length, q7, ls', us', q1, q2, q3, q4, q5, q6, rfl⟩, ?_⟩
      refine ⟨_, rfl, .inl ⟨rfl, _, SqL.of eg⟩, _, rfl, .inl ⟨rfl, _, SqL.of ef⟩, _, rfl, _, rfl, f, _, rfl, .inl (SqL.of ef), a, c, cs, _, rfl, h3, by rw [List.length_map]; omega, by rw [List.length_map]; omega, fun H2 r r4 h4 b0 b1 => ?_⟩
      rw [List.length_map] at b1
      obtain ⟨i, rfl⟩ : ∃ i : Nat, r = (i : Int) := ⟨r.toNat, by omega⟩
      have hi : i < ls.length := by omega
      have ef2 := r4 _ _ nfa ef
      have eg2 := r4 _ _ nga eg
      refine ⟨f, _, _, i, _, rfl, rfl, ef2, by omega, by omega, by rw [List.length_map]; exact seqIx hi, get_map_int (List.getElem?_eq_getElem hi), ?_⟩
      refine ⟨g, us.map V.int, _, rfl, rfl, by rw [upd_ne ngf]; exact eg2, by rw [List.length_map]; exact size_lt (by omega), ?_⟩
      refine ⟨ls.eraseIdx i, us ++ [ls[i]], rfl, ((r3.trans r4).mut nf0).mut ng0, (h4.upd nfa nfc).upd nga ngc, ?_, ?_, ?_, ?_⟩
      · rw [upd_ne ngf.symm, upd_same]
        rw [erase_map]
      · rw [upd_same, List.map_append]; rfl
      · refine List.Perm.trans ?_ hp
        rw [List.append_assoc]
        refine List.Perm.append_left us ?_
        exact perm_erase ls i _ (List.getElem?_eq_getElem hi)
      · rw [List.length_eraseIdx_of_lt hi]; omega
    · refine iteN (decide_eq_false (by rw [List.length_map]; omega)) ?_
      have e0 : ls = [] := List.length_eq_zero_iff.mp (by omega)
      subst e0
      rw [List.append_nil] at hp
      exact ⟨_, rfl, k H1 g us r3 h3 eg hp⟩
end
end GA
/-! GaDrawn2: _law_some_record. -/
namespace GA
open PySem PySem.Spec PyProof.Rows L2
/-- the puts that the machine x is to have, of the first i -/
structure PutA (ws : List Int) (x i : Nat) (ds : List Int) : Prop where
  nd : ds.Nodup
  rg : ∀ n ∈ ds, 0 ≤ n ∧ n < (i : Int)
  own : ∀ p : Nat, p < i → ws[p]? = some (x : Int) → (p : Int) ∈ ds
theorem PutA.yes {ws : List Int} {x i : Nat} {ds : List Int} (h : PutA ws x i ds) : PutA ws x (i + 1) (ds ++ [(i : Int)]) where
  nd := by
    rw [List.nodup_append]
    refine ⟨h.nd, by simp, fun a ha b hb e => ?_⟩
    have := h.rg a ha
    rw [List.mem_singleton.mp hb] at e
    omega
  rg := fun n hn => by
    rcases List.mem_append.mp hn with hn | hn
    · have := h.rg n hn; omega
    · rw [List.mem_singleton.mp hn]; omega
  own := fun p hp e => by
    by_cases hpi : p < i
    · exact List.mem_append_left _ (h.own p hpi e)
    · have : p = i := by omega
      subst this
      exact List.mem_append_right _ (List.mem_singleton.mpr rfl)
theorem PutA.no {ws : List Int} {x i : Nat} {ds : List Int} (h : PutA ws x i ds) (hn : ¬ ws[i]? = some (x : Int)) : PutA ws x (i + 1) ds where
  nd := h.nd
  rg := fun n hn => by have := h.rg n hn; omega
  own := fun p hp e => by
    by_cases hpi : p < i
    · exact h.own p hpi e
    · have : p = i := by omega
      subst this
      exact absurd e hn
theorem PutA.perm {ws : List Int} {x i : Nat} {ds us : List Int} (h : PutA ws x i ds) (p : us.Perm ds) : PutA ws x i us :=
  ⟨p.nodup_iff.mpr h.nd, fun n hn => h.rg n (p.mem_iff.mp hn), fun q hq e => p.mem_iff.mpr (h.own q hq e)⟩
section
variable {P : Program} {w : World} {K : PySem.W.Frag} {mg : Str → Option Value} {base : Heap}
def sp_record : Sp := fun vs H Q _ => ∃ a c cs, vs = [.ref a] ∧ Hand a c cs H ∧ ∀ H' r wv dv ws ds, Keep a H H' → Hand a c cs H' → H' r = some (.tup [wv, dv]) → TI H' wv ws → TTI H' dv ds → RecOk ws ds → ws.length ≤ 7 → Q (.ref r) H'
theorem ok_record (T : Txt K mg) : FnOk P w K mg base CX0 3 (He.ga K "_law_some_record") (fdOf K ("_law_some_record", none)) ["_law_hand_here"] sp_record := by
  refine okF T.d_law_some_record.fn sc_law_some_record (fun vs H Q E h => ?_) (fun cdv A outer s H vs Q E hr h => ?_)
  · obtain ⟨a, c, cs, rfl, _⟩ := h; rfl
  · obtain ⟨a, c, cs, rfl, hh, k⟩ := h
    refine ⟨_, pss_cons (ps_set (i := 1) sc_law_some_record.nd rfl (.inr rfl) (pe_op op_add pe_int (pe_d T.d_law_draw (ok_draw T) (hr.mono (by decide)) (pa_cons (pv 0) (pa_cons pe_int pa_nil)))))
      (pss_cons (ps_set (i := 2) sc_law_some_record.nd rfl (.inr rfl) (pe_callTy call_tuple_of (by rfl) T.m_tuple bt_tuple (pa_cons
        (pe_lc (own := [("_law_put", 6)]) (g := gName 6) rfl sc_law_some_record.nd (pi_range1 (by rfl) T.m_range (pa_cons (pe_d T.d_law_draw (ok_draw T) (hr.mono (by decide)) (pa_cons (pv 0) (pa_cons pe_int pa_nil))) pa_nil))
          (blkOk_by (N := ["_law_hand_here", "_law_machines", "_law_writers", "_law_diaries", "_law_x", "_law_some", "_law_put"]) (sc := defScope s_law_some_record) (by decide +kernel))
          (fun _ _ _ _ _ => pg_name (i := 6) sc_law_some_record.nd rfl (Or.inl rfl)) (fun _ _ _ _ _ => pts_nil) (fun _ _ _ _ _ => pe_d T.d_law_draw (ok_draw T) (hr.mono (by decide)) (pa_cons (pv 0) (pa_cons (pv 1) pa_nil)))) pa_nil)))
      (pss_cons (ps_set (i := 3) sc_law_some_record.nd rfl (.inl rfl) (pe_lst pa_nil))
      (pss_cons (ps_for PassesOwn.never rfl (pi_range1 (by rfl) T.m_range (pa_cons (pv 1) pa_nil)) (pg_name (i := 4) sc_law_some_record.nd rfl (Or.inr rfl))
        (pss_cons (ps_setLc (i := 5) (own := [("_law_put", 6)]) (g := gName 6) rfl sc_law_some_record.nd rfl rfl (sw_true rfl rfl rfl (by decide +kernel)) (pi_range1 (by rfl) T.m_range (pa_cons (pe_callB call_len_seq (by rfl) T.m_len PySem.boot_len (pa_cons (pv 2) pa_nil)) pa_nil))
          (blkOk_by (N := ["_law_hand_here", "_law_machines", "_law_writers", "_law_diaries", "_law_x", "_law_some", "_law_put"]) (sc := defScope s_law_some_record) (by decide +kernel))
          (fun _ _ _ _ _ => pg_name (i := 6) sc_law_some_record.nd rfl (Or.inl rfl))
          (fun _ _ _ _ _ => pts_one (PW.pt (pw_or (pt_cmpR op_eq (pe_ix (k_ixT (K := K)) (pv 2) (pv 6) (fun _ _ => rfl)) (pv 4) (nomark _)) (pw_or1 (pt_cmpR op_gt (pe_d T.d_law_draw (ok_draw T) (hr.mono (by decide)) (pa_cons (pv 0) (pa_cons pe_int pa_nil))) pe_int (nomark _))))))
          (fun _ _ _ _ _ => pv 6))
        (pss_one (ps_expr (pe_bm PySem.F.plainAttrs_list PySem.F.slot_list_append PySem.F.type_list_append mt_append (pv 3) (pa_cons
          (pe_callTy call_tuple_of (by rfl) T.m_tuple bt_tuple (pa_cons (pe_d T.d_law_shuffled (ok_shuf T) hr (pa_cons (pv 0) (pa_cons (pv 5) pa_nil))) pa_nil)) pa_nil))))))
      (pss_one (ps_ret (pe_tup (pa_cons (pv 2) (pa_cons (pe_callTy call_tuple_of (by rfl) T.m_tuple bt_tuple (pa_cons (pv 3) pa_nil)) pa_nil)))))))), ?_⟩
    refine ⟨_, rfl, a, c, cs, 5, rfl, hh, by decide, by decide, fun H1 r r1 h1 d0 d5 => ⟨_, _, rfl, rfl, ?_⟩⟩
    obtain ⟨m, hm⟩ : ∃ m : Nat, 1 + r = (m : Int) := ⟨(1 + r).toNat, by omega⟩
    show gName 1 (V.int (1 + r)) _ H1 _
    rw [hm]
    refine ⟨_, rfl, a, c, cs, 8, rfl, h1, by decide, by decide, fun H2 n r2 h2 n0 n8 => ?_⟩
    refine ⟨n, rfl, by omega, by omega, fun D hD => ?_⟩
    refine lc_hand walk_r0 (fun y (x : Int) _ => y = V.int x) (fun i ds => ds.length = i ∧ ∀ x ∈ ds, 0 ≤ x ∧ x < (m : Int)) hD h2 (fun _ _ _ _ _ h => h) ⟨rfl, fun _ h => (nomatch h)⟩ (fun _ _ _ => trivial) (by omega) ?_ ?_
    · rintro i _ H3 _ ds hi r3 h3 hA hl ⟨rfl, rfl⟩ Qt Qf q1 q2
      refine ⟨rfl, _, rfl, _, rfl, a, c, cs, m, rfl, h3, by omega, by omega, fun H4 x r4 h4 x0 xm => q1 _ x _ r4 h4 rfl ⟨by rw [List.length_append, hA.1]; rfl, fun z hz => ?_⟩⟩
      rcases List.mem_append.mp hz with hz | hz
      · exact hA.2 z hz
      · rw [List.mem_singleton.mp hz]; exact ⟨x0, xm⟩
    · intro H3 ys ws r3 h3 e3 p3 hws _
      have ey := paired_map p3
      subst ey
      obtain ⟨hwl, hwm⟩ := hws
      have w7 : ws.length ≤ 7 := by omega
      refine ⟨D, _, rfl, .inl ⟨SqL.of e3, fun wt nwt => ?_⟩⟩
      obtain ⟨r4, h4⟩ := h3.new ((r1.trans r2).trans r3) (o := .tup (ws.map V.int)) nwt
      refine ⟨Nat.zero_le _, fun f nf => ?_⟩
      obtain ⟨r5, h5⟩ := h4.new r4 (o := .lst []) nf
      have nfa := h4.nn nf
      have nfc : f ≠ c := (ne_of_none h4.1 nf).symm
      have nf0 : H f = none := r4.none nfa nf
      have ewt : (L2.upd (L2.upd H3 wt (.tup (ws.map V.int))) f (.lst [])) wt = some (.tup (ws.map V.int)) := same_new nf _ _ upd_same
      refine ⟨_, rfl, _, rfl, by omega, by omega, for_it walk_r0 (fun i σ H' => ∃ y4 y5 xs ds, σ = [some (.ref a), some (.int (m : Int)), some (.ref wt), some (.ref f), y4, y5, none] ∧ Keep a H H' ∧ Hand a c cs H' ∧ H' wt = some (.tup (ws.map V.int)) ∧ H' f = some (.lst xs) ∧ Paired (TI H') xs ds ∧ ds.length = i ∧
        ∀ (j : Nat) d, ds[j]? = some d → PutA ws j ws.length d) ⟨none, none, [], [], rfl, r5, h5, ewt, upd_same, .nil, rfl, fun j d e => by simp at e⟩ (fun _ _ _ _ _ => trivial) ?_ ?_⟩
      · rintro i _ _ _ H6 hi ⟨y4, y5, xs, ds, rfl, r6, h6, ew, ef, p6, l6, d6⟩ ⟨rfl, rfl⟩
        refine ⟨_, rfl, wt, _, rfl, .inr (SqT.of ew), _, rfl, by rw [List.length_map]; omega, by rw [List.length_map]; omega, fun D2 hD2 => ?_⟩
        refine lc_hand walk_r0 (fun y (x : Int) _ => y = V.int x) (fun j us => PutA ws i j us) hD2 h6 (fun _ _ _ _ _ h => h) ⟨List.nodup_nil, fun _ h => (nomatch h), fun p hp => absurd hp (Nat.not_lt_zero _)⟩ (fun _ _ _ => trivial) (by rw [List.length_map]; omega) ?_ ?_
        · rintro j _ H7 _ us hj r7 h7 hA hl ⟨rfl, rfl⟩ Qt Qf q1 q2
          have hjl : j < ws.length := by
            have e : ((ws.map V.int).length : Int).toNat = ws.length := by rw [List.length_map, Int.toNat_natCast]
            rw [e] at hj; exact hj
          have hwj : ws[j]? = some ws[j] := List.getElem?_eq_getElem hjl
          have ew7 := (h6.im r7) _ _ ew
          refine ⟨rfl, _, rfl, _, rfl, wt, _, _, .int ws[j], rfl, rfl, SqT.of ew7, atI_nat (get_map_int hwj), _, rfl, rfl, _, rfl, ?_⟩
          by_cases hx : V.int ws[j] = V.int (i : Int)
          · refine iteB (decide_eq_true hx) ?_
            refine iteT ?_
            exact ⟨_, rfl, q1 _ _ _ (Keep.refl _ _) h7 rfl hA.yes⟩
          · refine iteN (decide_eq_false hx) ?_
            refine ⟨_, rfl, a, c, cs, 3, rfl, h7, by decide, by decide, fun H8 z r8 h8 _ _ => ?_⟩
            refine ⟨_, _, rfl, rfl, _, rfl, ?_⟩
            refine ite2 (fun _ => ?_) (fun _ => ?_)
            · exact ⟨_, rfl, q1 _ _ _ r8 h8 rfl hA.yes⟩
            · exact q2 _ r8 h8 (hA.no fun e => hx (by rw [hwj] at e; rw [Option.some.inj e]))
        · intro H7 ys us r7 h7 e7 p7 hA hl
          have ey := paired_map p7
          subst ey
          have e0 : ((ws.map V.int).length : Int).toNat = ws.length := by rw [List.length_map, Int.toNat_natCast]
          rw [e0] at hA hl
          have ef7 := r7 _ _ nfa ef
          have ew7 := (h6.im r7) _ _ ew
          refine ⟨_, rfl, .inl ⟨rfl, _, SqL.of ef7⟩, _, rfl, _, rfl, a, c, cs, D2, us, rfl, h7, e7, by omega, fun H8 g us' r8 h8 e8 hp8 => ?_⟩
          refine ⟨g, _, rfl, .inl ⟨SqL.of e8, fun t nt => ?_⟩⟩
          obtain ⟨r9, h9⟩ := h8.new ((r6.trans r7).trans r8) (o := .tup (us'.map V.int)) nt
          have s9 : Same H8 (L2.upd H8 t (.tup (us'.map V.int))) := same_new nt
          have ef9 := s9 _ _ (r8 _ _ nfa ef7)
          have ew9 := s9 _ _ ((h7.im r8) _ _ ew7)
          have hxl := p6.length
          refine ⟨f, xs, _, rfl, rfl, ef9, size_lt (by omega), ?_⟩
          have imx : Im H6 (L2.upd H8 t (.tup (us'.map V.int))) := ((h6.im r7).trans (h7.im r8)).trans (same_im s9)
          refine ⟨_, _, xs ++ [.ref t], ds ++ [us'], rfl, r9.mut nf0, h9.upd nfa nfc, im_lst ef9 _ _ ew9, upd_same, ?_, by rw [List.length_append, l6]; rfl, fun j d e => ?_⟩
          · exact paired_append (pti_im p6 (imx.trans (im_lst ef9))) (.cons ⟨t, rfl, im_lst ef9 _ _ upd_same⟩ .nil)
          · by_cases hj : j < ds.length
            · rw [List.getElem?_append_left hj] at e
              exact d6 j d e
            · have hj2 : j = i := by
                have := (List.getElem?_eq_some_iff.mp e).1
                rw [List.length_append] at this
                have e1 : [us'].length = 1 := rfl
                omega
              subst hj2
              rw [List.getElem?_append_right (by omega), l6, Nat.sub_self] at e
              have e2 : us' = d := Option.some.inj e
              subst e2
              exact hA.perm hp8
      · rintro _ H6 ⟨y4, y5, xs, ds, rfl, r6, h6, ew, ef, p6, l6, d6⟩
        have lm : ds.length = m := by rw [l6, Int.toNat_natCast]
        refine ⟨_, rfl, _, rfl, f, xs, rfl, .inl ⟨SqL.of ef, fun t nt => ⟨by show 2 ≤ sizeLine; decide, fun q nq => ?_⟩⟩⟩
        obtain ⟨r7, h7⟩ := h6.new r6 (o := .tup xs) nt
        obtain ⟨r8, h8⟩ := h7.new r7 (o := .tup [.ref wt, .ref t]) nq
        have s7 : Same H6 (L2.upd H6 t (.tup xs)) := same_new nt
        have s8 : Same (L2.upd H6 t (.tup xs)) (L2.upd (L2.upd H6 t (.tup xs)) q (.tup [.ref wt, .ref t])) := same_new nq
        have hd : ∀ d ∈ ds, ∃ j, PutA ws j ws.length d := fun d hd => by
          obtain ⟨j, hj, e⟩ := List.mem_iff_getElem.mp hd
          exact ⟨j, d6 j d (by rw [List.getElem?_eq_getElem hj, e])⟩
        refine k _ q (.ref wt) (.ref t) ws ds r8 h8 upd_same ⟨wt, rfl, s8 _ _ (s7 _ _ ew)⟩ ⟨t, xs, rfl, s8 _ _ upd_same, pti_im p6 (same_im (s7.trans s8))⟩ ⟨by omega, by omega, by omega, fun x hx => ?_, fun d hd' => ?_, fun d hd' n hn => ?_, fun i x d hi hx => ?_⟩ w7
        · have := hwm x hx; omega
        · obtain ⟨j, p⟩ := hd d hd'; exact p.nd
        · obtain ⟨j, p⟩ := hd d hd'; have := p.rg n hn; omega
        · exact (d6 x d hx).own i (List.getElem?_eq_some_iff.mp hi).1 hi
end
end GA
/-! GaTree: drawn trees, their links renamed: halls. Plain. -/
namespace GA
open PySem L2
/-- the upTo 0 .. n - 1 -/
def upTo (n : Nat) : List Int := (List.range n).map fun i : Nat => (i : Int)
theorem mem_upTo {n : Nat} {x : Int} : x ∈ upTo n ↔ 0 ≤ x ∧ x < (n : Int) := by
  unfold upTo
  rw [List.mem_map]
  constructor
  · rintro ⟨i, hi, rfl⟩
    have := List.mem_range.mp hi
    omega
  · rintro ⟨h0, h1⟩
    exact ⟨x.toNat, List.mem_range.mpr (by omega), by omega⟩
theorem upTo_len (n : Nat) : (upTo n).length = n := by unfold upTo; rw [List.length_map, List.length_range]
theorem upTo_succ (n : Nat) : upTo (n + 1) = upTo n ++ [(n : Int)] := by unfold upTo; rw [List.range_succ, List.map_append]; rfl
theorem upTo_nd : ∀ n : Nat, (upTo n).Nodup
  | 0 => List.nodup_nil
  | n + 1 => by
    rw [upTo_succ, List.nodup_append]
    refine ⟨upTo_nd n, by simp, fun a ha b hb e => ?_⟩
    have := mem_upTo.mp ha
    rw [List.mem_singleton.mp hb] at e
    omega
/-- links of a tree on the nodes 0 .. n - 1: every node but 0 hangs on a lesser one, once -/
structure Tr (n : Nat) (ls : List (List Int)) : Prop where
  pos : 1 ≤ n
  kids : (ls.map fun l => l.getD 1 0).Perm ((upTo (n - 1)).map fun k => k + 1)
  each : ∀ l ∈ ls, ∃ p k, l = [p, k] ∧ 0 ≤ p ∧ p < k
theorem Tr.len {n : Nat} {ls : List (List Int)} (T : Tr n ls) : ls.length = n - 1 := by
  have := T.kids.length_eq
  rw [List.length_map, List.length_map, upTo_len] at this
  exact this
theorem Tr.kid {n : Nat} {ls : List (List Int)} (T : Tr n ls) {l : List Int} (h : l ∈ ls) : ∃ p k, l = [p, k] ∧ 0 ≤ p ∧ p < k ∧ k < (n : Int) := by
  obtain ⟨p, k, rfl, h1, h2⟩ := T.each l h
  have hm : k ∈ ls.map fun l => l.getD 1 0 := List.mem_map.mpr ⟨[p, k], h, rfl⟩
  have := T.kids.mem_iff.mp hm
  obtain ⟨j, hj, e⟩ := List.mem_map.mp this
  have := mem_upTo.mp hj
  have := T.pos
  exact ⟨p, k, rfl, h1, h2, by omega⟩
theorem Tr.has {n : Nat} {ls : List (List Int)} (T : Tr n ls) {k : Int} (h0 : 1 ≤ k) (h1 : k < (n : Int)) : ∃ p, [p, k] ∈ ls ∧ 0 ≤ p ∧ p < k := by
  have hm : k ∈ (upTo (n - 1)).map fun k => k + 1 := List.mem_map.mpr ⟨k - 1, mem_upTo.mpr ⟨by omega, by omega⟩, by omega⟩
  obtain ⟨l, hl, e⟩ := List.mem_map.mp (T.kids.mem_iff.mpr hm)
  obtain ⟨p, k', rfl, h2, h3⟩ := T.each l hl
  have e' : k' = k := e
  subst e'
  exact ⟨p, hl, h2, h3⟩
theorem map_nd {α β : Type} (f : α → β) : ∀ {l : List α}, (∀ a ∈ l, ∀ b ∈ l, f a = f b → a = b) → l.Nodup → (l.map f).Nodup
  | [], _, _ => List.nodup_nil
  | a :: r, h, nd => by
    obtain ⟨h1, h2⟩ := List.nodup_cons.mp nd
    rw [List.map_cons]
    refine List.nodup_cons.mpr ⟨fun hm => ?_, map_nd f (fun x hx y hy => h x (List.mem_cons_of_mem _ hx) y (List.mem_cons_of_mem _ hy)) h2⟩
    obtain ⟨b, hb, e⟩ := List.mem_map.mp hm
    have := h b (List.mem_cons_of_mem _ hb) a (List.mem_cons_self ..) e
    subst this
    exact h1 hb
theorem nd_of_map {α β : Type} (f : α → β) : ∀ {l : List α}, (l.map f).Nodup → l.Nodup
  | [], _ => List.nodup_nil
  | a :: r, h => by
    rw [List.map_cons] at h
    obtain ⟨h1, h2⟩ := List.nodup_cons.mp h
    exact List.nodup_cons.mpr ⟨fun hm => h1 (List.mem_map_of_mem hm), nd_of_map f h2⟩
theorem Tr.nd {n : Nat} {ls : List (List Int)} (T : Tr n ls) : ls.Nodup := by
  refine nd_of_map (fun l : List Int => l.getD 1 0) (T.kids.nodup_iff.mpr ?_)
  exact map_nd _ (fun a _ b _ (e : a + 1 = b + 1) => by omega) (upTo_nd _)
/-- the last node taken off -/
theorem Tr.cut {n : Nat} {ls : List (List Int)} (T : Tr (n + 2) ls) : Tr (n + 1) (ls.filter fun l => decide (l.getD 1 0 ≠ ((n + 1 : Nat) : Int))) where
  pos := by omega
  kids := by
    have h := T.kids.filter fun k => decide (k ≠ ((n + 1 : Nat) : Int))
    rw [List.filter_map] at h
    have e1 : n + 2 - 1 = n + 1 := by omega
    rw [e1, upTo_succ, List.map_append, List.filter_append] at h
    have e2 : (((upTo n).map fun k => k + 1).filter fun k => decide (k ≠ ((n + 1 : Nat) : Int))) = (upTo n).map fun k => k + 1 := by
      rw [List.filter_eq_self]
      intro x hx
      obtain ⟨y, hy, rfl⟩ := List.mem_map.mp hx
      have := mem_upTo.mp hy
      exact decide_eq_true (by omega)
    have e3 : (([(n : Int)].map fun k => k + 1).filter fun k => decide (k ≠ ((n + 1 : Nat) : Int))) = [] := by
      rw [List.filter_eq_nil_iff]
      intro x hx
      have : x = (n : Int) + 1 := by simpa using hx
      simp only [decide_eq_true_eq]
      omega
    rw [e2, e3, List.append_nil] at h
    exact h
  each := fun l hl => T.each l (List.mem_filter.mp hl).1
/-- how often a node stands among the ends -/
theorem count_ends (x : Int) : ∀ {ls : List (List Int)}, (∀ l ∈ ls, ∃ p k : Int, l = [p, k] ∧ p ≠ k) → ls.flatten.count x = (ls.filter fun l => decide (x ∈ l)).length
  | [], _ => rfl
  | l :: r, h => by
    obtain ⟨p, k, rfl, hpk⟩ := h l (List.mem_cons_self ..)
    have ih := count_ends x (ls := r) fun l hl => h l (List.mem_cons_of_mem _ hl)
    show ([p, k] ++ r.flatten).count x = _
    rw [List.count_append, ih, List.filter_cons]
    by_cases h1 : x = p
    · subst h1
      have e : List.count x [x, k] = 1 := by
        rw [List.count_cons, List.count_cons, List.count_nil]
        simp [Ne.symm hpk]
      rw [e, if_pos (by simp), List.length_cons]; omega
    · by_cases h2 : x = k
      · subst h2
        have e : List.count x [p, x] = 1 := by
          rw [List.count_cons, List.count_cons, List.count_nil]
          simp [hpk]
        rw [e, if_pos (by simp), List.length_cons]; omega
      · have e : List.count x [p, k] = 0 := by
          rw [List.count_cons, List.count_cons, List.count_nil]
          simp [Ne.symm h1, Ne.symm h2]
        rw [e, if_neg (by simp [h1, h2])]; omega
theorem Tr.ends {n : Nat} {ls : List (List Int)} (T : Tr n ls) (x : Int) : ls.flatten.count x = (ls.filter fun l => decide (x ∈ l)).length :=
  count_ends x fun l hl => by obtain ⟨p, k, h1, h2, h3⟩ := T.each l hl; exact ⟨p, k, h1, by omega⟩
theorem filter_le_one {α : Type} [DecidableEq α] {p : α → Bool} {a : α} : ∀ {l : List α}, l.Nodup → (∀ x ∈ l, p x = true → x = a) → (l.filter p).length ≤ 1
  | [], _, _ => Nat.zero_le _
  | x :: r, nd, h => by
    obtain ⟨h1, h2⟩ := List.nodup_cons.mp nd
    rw [List.filter_cons]
    by_cases hx : p x = true
    · rw [if_pos hx]
      have ex := h x (List.mem_cons_self ..) hx
      have e : r.filter p = [] := by
        rw [List.filter_eq_nil_iff]
        intro y hy hp
        have ey := h y (List.mem_cons_of_mem _ hy) hp
        rw [ex, ← ey] at h1
        exact h1 hy
      rw [e]; exact Nat.le_refl _
    · rw [if_neg hx]
      exact filter_le_one h2 fun y hy => h y (List.mem_cons_of_mem _ hy)
/-- the last node stands at most once among the ends -/
theorem Tr.last {n : Nat} {ls : List (List Int)} (T : Tr (n + 1) ls) : ls.flatten.count (n : Int) < 3 := by
  rw [T.ends]
  by_cases h0 : n = 0
  · subst h0
    have := T.len
    have : ls = [] := List.length_eq_zero_iff.mp (by omega)
    subst this
    decide
  · obtain ⟨p, hp, p0, p1⟩ := T.has (k := (n : Int)) (by omega) (by omega)
    have := filter_le_one (p := fun l => decide ((n : Int) ∈ l)) (a := [p, (n : Int)]) T.nd fun l hl hm => by
      obtain ⟨q, k, rfl, h1, h2, h3⟩ := T.kid hl
      have hm2 : (n : Int) = q ∨ (n : Int) = k := by simpa using hm
      have hk : k = (n : Int) := by omega
      subst hk
      -- two links with the same second node
      have hnd : (ls.map fun l => l.getD 1 0).Nodup := T.kids.nodup_iff.mpr (map_nd _ (fun a _ b _ (e : a + 1 = b + 1) => by omega) (upTo_nd _))
      obtain ⟨i, hi, e1⟩ := List.mem_iff_getElem.mp hl
      obtain ⟨j, hj, e2⟩ := List.mem_iff_getElem.mp hp
      by_cases hij : i = j
      · subst hij; rw [← e1, e2]
      · have hp := List.pairwise_iff_getElem.mp hnd
        have key : ∀ a b (ha : a < ls.length) (hb : b < ls.length), a < b → (ls[a]).getD 1 0 ≠ (ls[b]).getD 1 0 := fun a b ha hb hab => by
          have := hp a b (by rw [List.length_map]; exact ha) (by rw [List.length_map]; exact hb) hab
          rw [List.getElem_map, List.getElem_map] at this
          exact this
        rcases Nat.lt_or_gt_of_ne hij with hlt | hlt
        · exact absurd (by rw [e1, e2]; rfl) (key i j hi hj hlt)
        · exact absurd (by rw [e1, e2]; rfl) (key j i hj hi hlt)
    omega
/-! ### renamed -/
def nmOf (us : List Int) (i : Int) : Int := us.getD i.toNat 0
def ren (us : List Int) (l : List Int) : List Int :=
  [if nmOf us (l.getD 1 0) < nmOf us (l.getD 0 0) then nmOf us (l.getD 1 0) else nmOf us (l.getD 0 0), if nmOf us (l.getD 1 0) > nmOf us (l.getD 0 0) then nmOf us (l.getD 1 0) else nmOf us (l.getD 0 0)]
structure Nms (n : Nat) (us : List Int) : Prop where
  perm : us.Perm (upTo n)
theorem Nms.len {n : Nat} {us : List Int} (N : Nms n us) : us.length = n := by rw [N.perm.length_eq, upTo_len]
theorem Nms.get {n : Nat} {us : List Int} (N : Nms n us) {i : Int} (h0 : 0 ≤ i) (h1 : i < (n : Int)) : us[i.toNat]? = some (nmOf us i) := by
  have : i.toNat < us.length := by rw [N.len]; omega
  unfold nmOf
  rw [List.getD_eq_getElem?_getD, List.getElem?_eq_getElem this]; rfl
theorem Nms.rg {n : Nat} {us : List Int} (N : Nms n us) {i : Int} (h0 : 0 ≤ i) (h1 : i < (n : Int)) : 0 ≤ nmOf us i ∧ nmOf us i < (n : Int) :=
  mem_upTo.mp (N.perm.mem_iff.mp (List.mem_of_getElem? (N.get h0 h1)))
theorem Nms.inj {n : Nat} {us : List Int} (N : Nms n us) {i j : Int} (i0 : 0 ≤ i) (i1 : i < (n : Int)) (j0 : 0 ≤ j) (j1 : j < (n : Int)) (e : nmOf us i = nmOf us j) : i = j := by
  have nd : us.Nodup := N.perm.nodup_iff.mpr (upTo_nd n)
  have h1 := N.get i0 i1
  have h2 := N.get j0 j1
  rw [e] at h1
  have := nd_ix nd h1 h2
  omega
theorem Nms.onto {n : Nat} {us : List Int} (N : Nms n us) {x : Int} (h0 : 0 ≤ x) (h1 : x < (n : Int)) : ∃ i, 0 ≤ i ∧ i < (n : Int) ∧ nmOf us i = x := by
  obtain ⟨i, hi, e⟩ := List.mem_iff_getElem.mp (N.perm.mem_iff.mpr (mem_upTo.mpr ⟨h0, h1⟩))
  have hl := N.len
  have := N.get (i := (i : Int)) (by omega) (by omega)
  rw [Int.toNat_natCast, List.getElem?_eq_getElem hi, e] at this
  exact ⟨i, by omega, by omega, (Option.some.inj this).symm⟩
theorem ren_eq {us : List Int} {p k : Int} (h : nmOf us p ≠ nmOf us k) : (ren us [p, k] = [nmOf us p, nmOf us k] ∧ nmOf us p < nmOf us k) ∨ (ren us [p, k] = [nmOf us k, nmOf us p] ∧ nmOf us k < nmOf us p) := by
  by_cases h1 : nmOf us k < nmOf us p
  · refine .inr ⟨?_, h1⟩
    show [if nmOf us k < nmOf us p then nmOf us k else nmOf us p, if nmOf us k > nmOf us p then nmOf us k else nmOf us p] = _
    rw [if_pos h1, if_neg (by omega)]
  · refine .inl ⟨?_, by omega⟩
    show [if nmOf us k < nmOf us p then nmOf us k else nmOf us p, if nmOf us k > nmOf us p then nmOf us k else nmOf us p] = _
    rw [if_neg h1, if_pos (by omega)]
theorem code2 (B x y : Int) : TS.code B [x, y] = x * B + y := by
  show x * B ^ 1 + (y * B ^ 0 + 0) = _
  rw [Int.pow_zero, Int.mul_one, Int.add_zero, show B ^ 1 = B from by rw [Int.pow_succ, Int.pow_zero, Int.one_mul]]
theorem lex_of_code {x y x' y' : Int} (h : TS.code 100 [x, y] ≤ TS.code 100 [x', y']) (hy : 0 ≤ y ∧ y < 100) (hy' : 0 ≤ y' ∧ y' < 100) (hne : ([x, y] : List Int) ≠ [x', y']) : HT.lexLt [x, y] [x', y'] = true := by
  rw [code2, code2] at h
  show (if x = x' then (if y = y' then HT.lexLt [] [] else decide (y < y')) else decide (x < x')) = true
  by_cases hx : x = x'
  · subst hx
    rw [if_pos rfl]
    by_cases e : y = y'
    · subst e; exact absurd rfl hne
    · rw [if_neg e]; exact decide_eq_true (by omega)
  · rw [if_neg hx]; exact decide_eq_true (by omega)
theorem hall_ok {n : Nat} {ls ls' : List (List Int)} {pl us ps' : List Int} (T : Tr n ls) (n9 : n ≤ 9) (N : Nms n us)
    (hpl : ∀ i : Int, 0 ≤ i → i < (n : Int) → ls.flatten.count i < 3 → i ∈ pl) (hpr : ∀ i ∈ pl, 0 ≤ i ∧ i < (n : Int)) (h1 : 1 ≤ pl.length) (h7 : pl.length ≤ 7)
    (hl : ls'.Perm (ls.map (ren us))) (hs : ls'.Pairwise fun a b => TS.code 100 a ≤ TS.code 100 b) (hp : ps'.Perm (pl.map (nmOf us))) : HallOk ls' ps' := by
  have hlen : ls'.length = n - 1 := by rw [hl.length_eq, List.length_map, T.len]
  have hn := T.pos
  have hkid : ∀ l ∈ ls, ∃ p k, l = [p, k] ∧ 0 ≤ p ∧ p < k ∧ k < (n : Int) ∧ nmOf us p ≠ nmOf us k := fun l hl => by
    obtain ⟨p, k, e, a1, a2, a3⟩ := T.kid hl
    exact ⟨p, k, e, a1, a2, a3, fun q => by have := N.inj a1 (by omega) (by omega) a3 q; omega⟩
  have hmem : ∀ l' ∈ ls', ∃ l ∈ ls, l' = ren us l := fun l' h => by
    obtain ⟨l, h1, h2⟩ := List.mem_map.mp (hl.mem_iff.mp h)
    exact ⟨l, h1, h2.symm⟩
  have heach : ∀ l' ∈ ls', ∃ o t, l' = [o, t] ∧ 0 ≤ o ∧ o < t ∧ t ≤ (ls'.length : Int) := fun l' h => by
    obtain ⟨l, h1, rfl⟩ := hmem l' h
    obtain ⟨p, k, rfl, a1, a2, a3, a4⟩ := hkid l h1
    have b1 := N.rg a1 (by omega)
    have b2 := N.rg (i := k) (by omega) a3
    rcases ren_eq a4 with ⟨e, q⟩ | ⟨e, q⟩
    · exact ⟨_, _, e, b1.1, q, by omega⟩
    · exact ⟨_, _, e, b2.1, q, by omega⟩
  have hinj : ∀ a ∈ ls, ∀ b ∈ ls, ren us a = ren us b → a = b := fun a ha b hb e => by
    obtain ⟨p, k, rfl, a1, a2, a3, a4⟩ := hkid a ha
    obtain ⟨q, j, rfl, c1, c2, c3, c4⟩ := hkid b hb
    have fin : ∀ {x y u v : Int}, ([x, y] : List Int) = [u, v] → x = u ∧ y = v := fun e => by
      injection e with e1 e2
      injection e2 with e3 _
      exact ⟨e1, e3⟩
    rcases ren_eq a4 with ⟨e1, q1⟩ | ⟨e1, q1⟩ <;> rcases ren_eq c4 with ⟨e2, q2⟩ | ⟨e2, q2⟩ <;> rw [e1, e2] at e <;> obtain ⟨f1, f2⟩ := fin e
    · rw [N.inj a1 (by omega) c1 (by omega) f1, N.inj (by omega) a3 (by omega) c3 f2]
    · have g1 := N.inj a1 (by omega) (by omega) c3 f1
      have g2 := N.inj (by omega) a3 c1 (by omega) f2
      omega
    · have g1 := N.inj (by omega) a3 c1 (by omega) f1
      have g2 := N.inj a1 (by omega) (by omega) c3 f2
      omega
    · rw [N.inj (by omega) a3 (by omega) c3 f1, N.inj a1 (by omega) c1 (by omega) f2]
  have hnd : ls'.Nodup := hl.nodup_iff.mpr (map_nd _ hinj T.nd)
  refine ⟨⟨by omega, heach, fun i l l' e1 e2 => ?_, fun vs vnd v0 vrg vcl => ?_⟩, ?_, ?_, fun x hx => ?_, fun x x0 x1 hx => ?_⟩
  · -- ascending
    obtain ⟨i1, e3⟩ := List.getElem?_eq_some_iff.mp e1
    obtain ⟨i2, e4⟩ := List.getElem?_eq_some_iff.mp e2
    have c := List.pairwise_iff_getElem.mp hs i (i + 1) i1 i2 (Nat.lt_succ_self i)
    have d := List.pairwise_iff_getElem.mp hnd i (i + 1) i1 i2 (Nat.lt_succ_self i)
    rw [e3, e4] at c d
    obtain ⟨o, t, rfl, a1, a2, a3⟩ := heach l (List.mem_of_getElem? e1)
    obtain ⟨o', t', rfl, b1, b2, b3⟩ := heach l' (List.mem_of_getElem? e2)
    exact lex_of_code c ⟨by omega, by omega⟩ ⟨by omega, by omega⟩ d
  · -- all hang together
    have step : ∀ p k, [p, k] ∈ ls → 0 ≤ p → p < k → k < (n : Int) → (nmOf us p ∈ vs ↔ nmOf us k ∈ vs) := fun p k hm a1 a2 a3 => by
      have a4 : nmOf us p ≠ nmOf us k := fun q => by have := N.inj a1 (by omega) (by omega) a3 q; omega
      have := vcl (ren us [p, k]) (hl.mem_iff.mpr (List.mem_map_of_mem hm))
      rcases ren_eq a4 with ⟨e, _⟩ | ⟨e, _⟩
      · rw [e] at this; exact this
      · rw [e] at this; exact this.symm
    have down : ∀ (m : Nat) (k : Int), k ≤ (m : Int) → 0 ≤ k → k < (n : Int) → (nmOf us 0 ∈ vs ↔ nmOf us k ∈ vs) := by
      intro m
      induction m with
      | zero => intro k h1 h2 _; have : k = 0 := by omega
                subst this; exact Iff.rfl
      | succ m ih =>
        intro k h1 h2 h3
        by_cases hk : k = 0
        · subst hk; exact Iff.rfl
        · obtain ⟨p, hp, p0, p1⟩ := T.has (k := k) (by omega) h3
          exact (ih p (by omega) p0 (by omega)).trans (step p k hp p0 p1 h3)
    obtain ⟨r, r0, r1, er⟩ := N.onto (x := 0) (by omega) (by omega)
    have z0 : nmOf us 0 ∈ vs := (down r.toNat r (by omega) r0 r1).mpr (by rw [er]; exact v0)
    have all : ∀ x ∈ upTo n, x ∈ vs := fun x hx => by
      obtain ⟨i, i0, i1, e⟩ := N.onto (mem_upTo.mp hx).1 (mem_upTo.mp hx).2
      have := (down i.toNat i (by omega) i0 i1).mp z0
      rw [e] at this; exact this
    have l1 := List.Nodup.length_le_of_subset (upTo_nd n) (fun x hx => all x hx)
    have l2 := nodup_le n vs vnd fun x hx => by have := vrg x hx; omega
    rw [upTo_len] at l1
    omega
  · rw [hp.length_eq, List.length_map]; exact h1
  · rw [hp.length_eq, List.length_map]; exact h7
  · obtain ⟨i, hi, rfl⟩ := List.mem_map.mp (hp.mem_iff.mp hx)
    obtain ⟨i0, i1⟩ := hpr i hi
    have := N.rg i0 i1
    exact ⟨this.1, by omega⟩
  · obtain ⟨i, i0, i1, rfl⟩ := N.onto (x := x) x0 (by omega)
    have hi : i ∉ pl := fun h => hx (hp.mem_iff.mpr (List.mem_map_of_mem h))
    have hc : 3 ≤ ls.flatten.count i := by
      apply Nat.le_of_not_lt
      intro h
      exact hi (hpl i i0 i1 h)
    rw [T.ends] at hc
    have e : (ls'.filter fun l => decide (nmOf us i ∈ l)).length = (ls.filter fun l => decide (i ∈ l)).length := by
      rw [(hl.filter _).length_eq, List.filter_map, List.length_map]
      congr 1
      apply List.filter_congr
      intro l hl
      obtain ⟨p, k, rfl, a1, a2, a3, a4⟩ := hkid l hl
      show decide (nmOf us i ∈ ren us [p, k]) = decide (i ∈ [p, k])
      have hm : nmOf us i ∈ ren us [p, k] ↔ (nmOf us i = nmOf us p ∨ nmOf us i = nmOf us k) := by
        rcases ren_eq a4 with ⟨e, _⟩ | ⟨e, _⟩ <;> rw [e] <;> simp [or_comm]
      have hm2 : i ∈ [p, k] ↔ (i = p ∨ i = k) := by simp
      rw [decide_eq_decide, hm, hm2]
      constructor
      · rintro (h | h)
        · exact .inl (N.inj i0 i1 a1 (by omega) h)
        · exact .inr (N.inj i0 i1 (by omega) a3 h)
      · rintro (h | h)
        · exact .inl (by rw [h])
        · exact .inr (by rw [h])
    rw [e]; exact hc
end GA
/-! GaHallD: _law_hall. -/
namespace GA
open PySem PySem.Spec PyProof.Rows L2
theorem paired_perm {α β : Type} {F : α → β → Prop} {xs ys : List α} (h : ys.Perm xs) : ∀ {ds : List β}, Paired F xs ds → ∃ ds', Paired F ys ds' ∧ ds'.Perm ds := by
  induction h with
  | nil => intro ds p; cases p; exact ⟨[], .nil, .nil⟩
  | cons x _ ih =>
    intro ds p
    cases p with
    | cons q p =>
      obtain ⟨ds', p1, p2⟩ := ih p
      exact ⟨_, .cons q p1, p2.cons _⟩
  | swap x y l =>
    intro ds p
    cases p with
    | cons q p =>
      cases p with
      | cons q2 p => exact ⟨_, .cons q2 (.cons q p), List.Perm.swap _ _ _⟩
  | trans _ _ ih1 ih2 =>
    intro ds p
    obtain ⟨d1, p1, r1⟩ := ih2 p
    obtain ⟨d2, p2, r2⟩ := ih1 p1
    exact ⟨d2, p2, r2.trans r1⟩
theorem paired_memR {α β : Type} {F : α → β → Prop} {xs : List α} {ds : List β} {d : β} (h : Paired F xs ds) (m : d ∈ ds) : ∃ x ∈ xs, F x d := by
  obtain ⟨i, hi, e⟩ := List.mem_iff_getElem.mp m
  obtain ⟨x, hx, q⟩ := paired_getR (i := i) (y := d) h (by rw [List.getElem?_eq_getElem hi, e])
  exact ⟨x, List.mem_of_getElem? hx, q⟩
theorem paired_memL {α β : Type} {F : α → β → Prop} {xs : List α} {ds : List β} {x : α} (h : Paired F xs ds) (m : x ∈ xs) : ∃ d ∈ ds, F x d := by
  obtain ⟨i, hi, e⟩ := List.mem_iff_getElem.mp m
  obtain ⟨d, hd, q⟩ := paired_get (i := i) (x := x) h (by rw [List.getElem?_eq_getElem hi, e])
  exact ⟨d, List.mem_of_getElem? hd, q⟩
theorem paired_pw {H : Hp} {K : PySem.W.Frag} {B : Int} {ys : List V} {ds : List (List Int)} (p : Paired (TI H) ys ds) (h : ys.Pairwise (fun x y => ∀ n m, TupI K H x n → TupI K H y m → TS.code B n ≤ TS.code B m)) : ds.Pairwise fun a b => TS.code B a ≤ TS.code B b := by
  induction p with
  | nil => exact .nil
  | cons q p ih =>
    obtain ⟨h1, h2⟩ := List.pairwise_cons.mp h
    refine List.pairwise_cons.mpr ⟨fun b hb => ?_, ih h2⟩
    obtain ⟨y, hy, t, rfl, ht⟩ := paired_memR p hb
    obtain ⟨s, rfl, hs⟩ := q
    exact h1 _ hy _ _ ⟨s, rfl, SqT.of hs⟩ ⟨t, rfl, SqT.of ht⟩
/-- the links drawn so far -/
structure LnkA (i : Nat) (ds : List (List Int)) : Prop where
  kids : (ds.map fun l => l.getD 1 0) = (upTo i).map fun k => k + 1
  each : ∀ l ∈ ds, ∃ p k, l = [p, k] ∧ 0 ≤ p ∧ p < k
theorem LnkA.nil : LnkA 0 [] := ⟨rfl, fun _ h => nomatch h⟩
theorem LnkA.add {i : Nat} {ds : List (List Int)} (h : LnkA i ds) {p : Int} (h0 : 0 ≤ p) (h1 : p < 1 + (i : Int)) : LnkA (i + 1) (ds ++ [[p, 1 + (i : Int)]]) where
  kids := by
    rw [List.map_append, h.kids, upTo_succ, List.map_append]
    show _ ++ [1 + (i : Int)] = _ ++ [(i : Int) + 1]
    rw [Int.add_comm]
  each := fun l hl => by
    rcases List.mem_append.mp hl with hl | hl
    · exact h.each l hl
    · rw [List.mem_singleton.mp hl]; exact ⟨p, _, rfl, h0, h1⟩
theorem LnkA.tr {n : Nat} {ds ls : List (List Int)} (h : LnkA (n - 1) ds) (p : ls.Perm ds) (h1 : 1 ≤ n) : Tr n ls where
  pos := h1
  kids := by rw [← h.kids]; exact p.map _
  each := fun l hl => h.each l (p.mem_iff.mp hl)
/-- the nodes below n with fewer than three links -/
def plc (ls : List (List Int)) (n : Nat) : List Int := (upTo n).filter fun i => decide (ls.flatten.count i < 3)
theorem plc_succ (ls : List (List Int)) (n : Nat) : plc ls (n + 1) = plc ls n ++ (if ls.flatten.count (n : Int) < 3 then [(n : Int)] else []) := by
  unfold plc
  rw [upTo_succ, List.filter_append]
  congr 1
  by_cases h : ls.flatten.count (n : Int) < 3
  · rw [if_pos h, List.filter_cons, if_pos (decide_eq_true h)]; rfl
  · rw [if_neg h, List.filter_cons, if_neg (by simpa using h)]; rfl
theorem plc_len (ls : List (List Int)) (n : Nat) : (plc ls n).length ≤ n := by
  have := List.length_filter_le (fun i => decide (ls.flatten.count i < 3)) (upTo n)
  rw [upTo_len] at this
  exact this
theorem plc_mem {ls : List (List Int)} {n : Nat} {i : Int} (h0 : 0 ≤ i) (h1 : i < (n : Int)) (h : ls.flatten.count i < 3) : i ∈ plc ls n :=
  List.mem_filter.mpr ⟨mem_upTo.mpr ⟨h0, h1⟩, decide_eq_true h⟩
theorem plc_rg {ls : List (List Int)} {n : Nat} {i : Int} (h : i ∈ plc ls n) : 0 ≤ i ∧ i < (n : Int) := mem_upTo.mp (List.mem_filter.mp h).1
theorem plc_pos {ls : List (List Int)} {n : Nat} (T : Tr n ls) : 1 ≤ (plc ls n).length := by
  have h1 := T.pos
  obtain ⟨k, rfl⟩ : ∃ k, n = k + 1 := ⟨n - 1, by omega⟩
  have : ((k : Int)) ∈ plc ls (k + 1) := plc_mem (by omega) (by omega) T.last
  exact List.length_pos_of_mem this
theorem flat_len {ls : List (List Int)} (h : ∀ l ∈ ls, ∃ p k : Int, l = [p, k] ∧ 0 ≤ p ∧ p < k) : ls.flatten.length = 2 * ls.length := by
  induction ls with
  | nil => rfl
  | cons l r ih =>
    obtain ⟨p, k, rfl, _⟩ := h l (List.mem_cons_self ..)
    rw [List.flatten_cons, List.length_append, ih fun l hl => h l (List.mem_cons_of_mem _ hl)]
    show 2 + 2 * r.length = 2 * (r.length + 1)
    omega
theorem flat_take {ls : List (List Int)} {i : Nat} {l : List Int} (h : ls[i]? = some l) : (ls.take (i + 1)).flatten = (ls.take i).flatten ++ l := by
  rw [List.take_add_one, h, List.flatten_append]
  show _ ++ [l].flatten = _
  rw [List.flatten_cons, List.flatten_nil, List.append_nil]
theorem take_flat_len {ls : List (List Int)} (i : Nat) (h : ∀ l ∈ ls, ∃ p k : Int, l = [p, k] ∧ 0 ≤ p ∧ p < k) : (ls.take i).flatten.length ≤ 2 * ls.length := by
  rw [flat_len fun l hl => h l (List.mem_of_mem_take hl), List.length_take]
  omega
theorem rg_upTo (n : Nat) : rgV 0 (n : Int) = (upTo n).map V.int := by
  unfold rgV upTo
  rw [List.map_map, show ((n : Int) - 0).toNat = n by omega]
  apply List.map_congr_left
  intro i _
  show V.int (0 + (i : Int)) = V.int (i : Int)
  rw [Int.zero_add]
/-- what a link of a hall gives to be sorted -/
theorem ren_bd {us l : List Int} {n : Nat} (N : Nms n us) (n9 : n ≤ 9) (h : ∃ p k, l = [p, k] ∧ 0 ≤ p ∧ p < k ∧ k < (n : Int)) : (ren us l).length = 2 ∧ TS.Bd 100 (ren us l) := by
  obtain ⟨p, k, rfl, h1, h2, h3⟩ := h
  refine ⟨rfl, ?_⟩
  have a := N.rg h1 (by omega)
  have b := N.rg (i := k) (by omega) h3
  intro x hx
  have e1 : ([p, k] : List Int).getD 0 0 = p := rfl
  have e2 : ([p, k] : List Int).getD 1 0 = k := rfl
  unfold ren at hx
  rw [e1, e2] at hx
  rcases List.mem_cons.mp hx with rfl | hx
  · split <;> omega
  · rw [List.mem_singleton.mp hx]; split <;> omega

section
variable {X : Cx} {K : PySem.W.Frag} {o e : Expr} {es : List Expr} {to : TE} {t : TA} {name : Str} {apos cpos : Pos} {T id : String} {r : V → List V → Hp → VK → Prop}
/-- pe_bm with the written part named -/
theorem k_bm (pa : PlainAttrs T) (slot : Slot T name id) (hty : typeOf (.builtin id) = pure (.type "method_descriptor")) (hm : MtR X id r) (ho : PE X o to) (ha : PA X (e :: es) t) (hK : X.K = K := by rfl)
    (hbase : attributeBase o name X.env (eval o X.env) = eval o X.env := by rfl)
    (hfew : ((backTo cpos (starEach (e :: es) X.env)).all (fun x => !x.1) && (backToKw cpos (keywordEach [] X.env)).all (fun x => x.1.isSome)
      && decide ((e :: es).length + ([] : List Keyword).length + (if ([] : List Keyword).isEmpty then 0 else 1) < 30)) = true := by rfl)
    (hline : (apos.endLine == cpos.line) = true := by rfl) (hs : starEach (e :: es) X.env = (false, eval e X.env) :: starEach es X.env := by rfl) (hplain : (backTo cpos (starEach es X.env)).any (·.1) = false := by rfl) :
    PE X (.Call (.Attribute o name apos) (e :: es) [] cpos) (tBM K T r to t) := by
  subst hK; exact pe_bm pa slot hty hm ho ha hbase hfew hline hs hplain
end
section
variable {K : PySem.W.Frag}
/-- for one, other in links: ends.extend([one, other]) -/
theorem ends_loop {D : Ends} {a c p f : Addr} {cs : List Int} {nv : V} {y4 y5 y6 : Option V} {H0 H : Hp} {ys : List V} {ls : List (List Int)} (hE : ∀ l ∈ ls, ∃ p k : Int, l = [p, k] ∧ 0 ≤ p ∧ p < k) (hn : ls.length ≤ 1000)
    (r : Keep a H0 H) (h : Hand a c cs H) (ep : H p = some (.lst ys)) (pp : Paired (TI H) ys ls) (ef : H f = some (.lst [])) (nf : H0 f = none) (nfa : f ≠ a) (nfc : f ≠ c) (npf : p ≠ f)
    (k : ∀ y4 y5 H', Keep a H0 H' → Hand a c cs H' → H' p = some (.lst ys) → Paired (TI H') ys ls → H' f = some (.lst (ls.flatten.map V.int)) → D.nx [some (.ref a), some nv, some (.ref p), some (.ref f), y4, y5, y6, none, none, none, none] H') :
    tFor (iList K (tVar 2)) (gTup K 2 (gCons (gName 4) (gCons (gName 5) gNil))) (tDrop (tBM K "list" rExtend (tVar 3) (tCons (tLst (tCons (tVar 4) (tCons (tVar 5) tNil))) tNil))) D
      [some (.ref a), some nv, some (.ref p), some (.ref f), y4, y5, y6, none, none, none, none] H := by
  have hyl := pp.length
  refine ⟨_, rfl, p, rfl, ⟨_, SqL.of ep⟩, for_it walk_list (fun i σ H' => ∃ y4 y5, σ = [some (.ref a), some nv, some (.ref p), some (.ref f), y4, y5, y6, none, none, none, none] ∧ Keep a H0 H' ∧ Hand a c cs H' ∧ H' p = some (.lst ys) ∧ Paired (TI H') ys ls ∧ H' f = some (.lst ((ls.take i).flatten.map V.int)))
    ⟨y4, y5, rfl, r, h, ep, pp, ef⟩ (fun _ _ _ _ q => let ⟨_, _, _, _, _, q, _⟩ := q; SqL.of q) ?_ ?_⟩
  · rintro i x _ _ H1 hi ⟨y4, y5, rfl, r1, h1, ep1, pp1, ef1⟩ ⟨rfl, ex⟩
    obtain ⟨l, hl, b, rfl, hb⟩ := paired_get pp1 ex
    obtain ⟨o, t, rfl, _⟩ := hE l (List.mem_of_getElem? hl)
    refine ⟨b, _, rfl, SqT.of hb, rfl, .int o, [.int t], rfl, .int t, [], rfl, rfl, ?_⟩
    refine ⟨_, rfl, .inl ⟨rfl, _, SqL.of ef1⟩, _, rfl, _, rfl, by show 2 ≤ sizeLine; decide, fun q nq => ?_⟩
    obtain ⟨r2, h2⟩ := h1.new r1 (o := .lst [.int o, .int t]) nq
    have s2 : Same H1 (L2.upd H1 q (.lst [.int o, .int t])) := same_new nq
    have ef2 := s2 _ _ ef1
    have hfl := take_flat_len i hE
    refine ⟨f, q, _, _, rfl, rfl, ef2, upd_same, size_ok (by rw [List.length_map]; show _ + 2 ≤ _; omega), ?_⟩
    refine ⟨_, _, rfl, r2.mut nf, h2.upd nfa nfc, by rw [upd_ne npf]; exact s2 _ _ ep1, pti_im pp1 ((same_im s2).trans (im_lst ef2)), ?_⟩
    rw [upd_same, flat_take hl, List.map_append]; rfl
  · rintro _ H1 ⟨y4, y5, rfl, r1, h1, ep1, pp1, ef1⟩
    rw [List.take_of_length_le (by omega)] at ef1
    exact k y4 y5 H1 r1 h1 ep1 pp1 ef1
/-- places = [node for node in range(nodes) if ends.count(node) < 3] -/
theorem places_set {D : Ends} {f : Addr} {n : Nat} {v0 v2 y4 y5 y6 : Option V} {H : Hp} {ls : List (List Int)} (hn : n ≤ 1000) (ef : H f = some (.lst (ls.flatten.map V.int)))
    (k : ∀ q H', Same H H' → H q = none → H' q = some (.lst ((plc ls n).map V.int)) → D.nx [v0, some (.int (n : Int)), v2, some (.ref f), y4, y5, some (.ref q), none, none, none, none] H') :
    tAsg (tLc (iRng1 (tCons (tVar 1) tNil)) (gName 9) (tTest (tOp (rI0 fun i j => V.bl (decide (i < j))) (tBM K "list" (rCntI K) (tVar 3) (tCons (tVar 9) tNil)) (tC (V.int 3)))) (tVar 9) (List.map (fun x => x.snd) [(Str.ofString "_law_node", 9)])) (gName 6) D
      [v0, some (.int (n : Int)), v2, some (.ref f), y4, y5, y6, none, none, none, none] H := by
  refine ⟨_, rfl, n, rfl, by omega, by omega, fun q nq => ?_⟩
  rw [Int.toNat_natCast]
  refine lc_same walk_r0 (fun y (d : Int) _ => y = V.int d) (fun i ds => ds = plc ls i) nq (fun _ _ _ _ _ h => h) rfl (fun _ _ => trivial) (by omega) ?_ ?_
  · rintro i _ H1 _ ds hi r hA ⟨rfl, rfl⟩ Qt Qf q1 q2
    have ef1 := r _ _ ef
    refine ⟨rfl, _, rfl, .inl ⟨rfl, _, SqL.of ef1⟩, _, rfl, f, _, _, rfl, rfl, SqL.of ef1, _, _, rfl, rfl, _, rfl, ?_⟩
    by_cases hc : ls.flatten.count (i : Int) < 3
    · refine iteB (decide_eq_true (by omega)) ?_
      refine ⟨_, rfl, q1 _ _ _ (Same.refl _) rfl ?_⟩
      rw [hA, plc_succ, if_pos hc]
    · refine iteN (decide_eq_false (by omega)) ?_
      refine q2 _ (Same.refl _) ?_
      rw [hA, plc_succ, if_neg hc, List.append_nil]
  · intro H1 xs ds r e p hA _
    have ey := paired_map p
    subst ey
    subst hA
    exact k q H1 r nq e
/-- for turn in range(draw(hand, 3) if len(places) < 6 else 0): places.append(draw(hand, nodes)) -/
theorem draws_loop {D : Ends} {a c p g : Addr} {cs : List Int} {n : Nat} {y3 y4 y5 : Option V} {H0 H : Hp} {ys : List V} {ls : List (List Int)} {pl : List Int} (n1 : 1 ≤ n) (n9 : n ≤ 9) (hpl : ∀ i ∈ pl, 0 ≤ i ∧ i < (n : Int)) (h7 : pl.length ≤ 7)
    (r : Keep a H0 H) (h : Hand a c cs H) (ep : H p = some (.lst ys)) (pp : Paired (TI H) ys ls) (eg : H g = some (.lst (pl.map V.int))) (ng0 : H0 g = none) (nga : g ≠ a) (ngc : g ≠ c) (npg : p ≠ g) (npa : p ≠ a)
    (k : ∀ (y7 : Option V) (pl' : List Int) (H' : Hp), Keep a H0 H' → Hand a c cs H' → H' p = some (.lst ys) → Paired (TI H') ys ls → H' g = some (.lst (pl'.map V.int)) → (∀ i ∈ pl, i ∈ pl') → (∀ i ∈ pl', 0 ≤ i ∧ i < (n : Int)) → pl'.length ≤ 7 → pl.length ≤ pl'.length →
      D.nx [some (.ref a), some (.int (n : Int)), some (.ref p), y3, y4, y5, some (.ref g), y7, none, none, none] H') :
    tFor (iRng1 (tCons (tIf (tTest (tOp (rI0 fun i j => V.bl (decide (i < j))) (tCB (fun xs H Q => ∃ p ys, xs = [V.ref p] ∧ (SqL K H p ys ∨ SqT K H p ys) ∧ Q (V.int ys.length) H) (tCons (tVar 6) tNil)) (tC (V.int 6)))) (tCall sp_draw [] E0 (tCons (tVar 0) (tCons (tC (V.int 3)) tNil))) (tC (V.int 0))) tNil))
      (gName 7) (tDrop (tBM K "list" rAppend (tVar 6) (tCons (tCall sp_draw [] E0 (tCons (tVar 0) (tCons (tVar 1) tNil))) tNil))) D
      [some (.ref a), some (.int (n : Int)), some (.ref p), y3, y4, y5, some (.ref g), none, none, none, none] H := by
  have key : ∀ (z : Nat) (H1 : Hp), Keep a H H1 → Hand a c cs H1 → pl.length + z ≤ 7 → tFor (fun _ _ R => R (Itr 0 z) H1) (gName 7) (tDrop (tBM K "list" rAppend (tVar 6) (tCons (tCall sp_draw [] E0 (tCons (tVar 0) (tCons (tVar 1) tNil))) tNil))) D
      [some (.ref a), some (.int (n : Int)), some (.ref p), y3, y4, y5, some (.ref g), none, none, none, none] H := fun z H1 r1 h1 hz => by
    refine for_it walk_r0 (fun i σ H' => ∃ (y7 : Option V) (pl' : List Int), σ = [some (.ref a), some (.int (n : Int)), some (.ref p), y3, y4, y5, some (.ref g), y7, none, none, none] ∧ Keep a H0 H' ∧ Hand a c cs H' ∧ H' p = some (.lst ys) ∧ Paired (TI H') ys ls ∧ H' g = some (.lst (pl'.map V.int)) ∧ (∀ i ∈ pl, i ∈ pl') ∧ (∀ i ∈ pl', 0 ≤ i ∧ i < (n : Int)) ∧ pl'.length = pl.length + i)
      ⟨none, pl, rfl, r.trans r1, h1, r1 _ _ npa ep, pti_im pp (h.im r1), r1 _ _ nga eg, fun _ h => h, hpl, rfl⟩ (fun _ _ _ _ _ => trivial) ?_ ?_
    · rintro i _ _ _ H2 hi ⟨y7, pl', rfl, r2, h2, ep2, pp2, eg2, a1, a2, a3⟩ ⟨rfl, rfl⟩
      refine ⟨_, rfl, .inl ⟨rfl, _, SqL.of eg2⟩, _, rfl, _, rfl, a, c, cs, n, rfl, h2, by omega, by omega, fun H3 x r3 h3 x0 x1 => ?_⟩
      have eg3 := r3 _ _ nga eg2
      refine ⟨g, _, _, rfl, rfl, eg3, by rw [List.length_map]; exact size_lt (by omega), ?_⟩
      refine ⟨_, pl' ++ [x], rfl, (r2.trans r3).mut ng0, h3.upd nga ngc, by rw [upd_ne npg]; exact r3 _ _ npa ep2, pti_im pp2 ((h2.im r3).trans (im_lst eg3)), by rw [upd_same, List.map_append]; rfl, fun i hi => List.mem_append_left _ (a1 i hi), fun i hi => ?_, by rw [List.length_append, a3]; rfl⟩
      rcases List.mem_append.mp hi with hi | hi
      · exact a2 i hi
      · rw [List.mem_singleton.mp hi]; exact ⟨x0, x1⟩
    · rintro _ H2 ⟨y7, pl', rfl, r2, h2, ep2, pp2, eg2, a1, a2, a3⟩
      exact k y7 pl' H2 r2 h2 ep2 pp2 eg2 a1 a2 (by omega) (by omega)
  refine ⟨_, rfl, g, _, rfl, .inl (SqL.of eg), _, _, rfl, rfl, _, rfl, ?_⟩
  rw [List.length_map]
  by_cases h6 : pl.length < 6
  · refine iteB (decide_eq_true (by omega)) ?_
    refine ⟨_, rfl, a, c, cs, 3, rfl, h, by decide, by decide, fun H1 x r1 h1 x0 x1 => ?_⟩
    exact ⟨x, rfl, by omega, by omega, key x.toNat H1 r1 h1 (by omega)⟩
  · refine iteN (decide_eq_false (by omega)) ?_
    exact ⟨0, rfl, by decide, by decide, key 0 H (Keep.refl _ _) h (by omega)⟩
end
section
variable {P : Program} {w : World} {K : PySem.W.Frag} {mg : Str → Option Value} {base : Heap}
def sp_hall : Sp := fun vs H Q _ => ∃ a c cs, vs = [.ref a] ∧ Hand a c cs H ∧ ∀ H' r lv pv ls ps, Keep a H H' → Hand a c cs H' → H' r = some (.tup [lv, pv]) → TTI H' lv ls → TI H' pv ps → HallOk ls ps → ls.length ≤ 8 → ps.length ≤ 7 → Q (.ref r) H'
theorem ok_law_hall (T : Txt K mg) : FnOk P w K mg base CX0 3 (He.ga K "_law_hall") (fdOf K ("_law_hall", none)) ["_law_hand_here"] sp_hall := by
  refine okF T.d_law_hall.fn sc_law_hall (fun vs H Q E h => ?_) (fun cdv A outer s H vs Q E hr h => ?_)
  · obtain ⟨a, c, cs, rfl, _⟩ := h; rfl
  · obtain ⟨a, c, cs, rfl, hh, k⟩ := h
    refine ⟨_, pss_cons (ps_set (i := 1) sc_law_hall.nd rfl (.inr rfl) (pe_op op_add pe_int (pe_d T.d_law_draw (ok_draw T) (hr.mono (by decide)) (pa_cons (pv 0) (pa_cons pe_int pa_nil)))))
      (pss_cons (ps_set (i := 2) sc_law_hall.nd rfl (.inl rfl) (pe_callB cr_sortedP (by rfl) T.m_sorted bt_sorted (pa_cons
        (pe_lc (own := [("_law_node", 9)]) (g := gName 9) rfl sc_law_hall.nd (pi_range2 (by rfl) T.m_range (pa_cons pe_int (pa_cons (pv 1) pa_nil)))
          (blkOk_by (N := ["_law_hand_here", "_law_nodes", "_law_links", "_law_ends", "_law_one", "_law_other", "_law_places", "_law_turn", "_law_names", "_law_node", "_law_link"]) (sc := defScope s_law_hall) (by decide +kernel))
          (fun _ _ _ _ _ => pg_name (i := 9) sc_law_hall.nd rfl (Or.inl rfl)) (fun _ _ _ _ _ => pts_nil)
          (fun _ _ _ _ _ => pe_tup (pa_cons (pe_d T.d_law_draw (ok_draw T) (hr.mono (by decide)) (pa_cons (pv 0) (pa_cons (pv 9) pa_nil))) (pa_cons (pv 9) pa_nil)))) pa_nil)))
      (pss_cons (ps_set (i := 3) sc_law_hall.nd rfl (.inr rfl) (pe_lst pa_nil))
      (pss_cons (ps_for PassesOwn.never rfl (pi_list (pv 2)) (pg_tup rfl (pgs_cons (pg_name (i := 4) sc_law_hall.nd rfl (Or.inl rfl)) (pgs_cons (pg_name (i := 5) sc_law_hall.nd rfl (Or.inl rfl)) pgs_nil)))
        (pss_one (ps_expr (pe_bm PySem.F.plainAttrs_list PySem.F.slot_list_extend PySem.F.type_list_extend mt_extend (pv 3) (pa_cons (pe_lst (pa_cons (pv 4) (pa_cons (pv 5) pa_nil))) pa_nil)))))
      (pss_cons (ps_setLc (i := 6) (own := [("_law_node", 9)]) (g := gName 9) rfl sc_law_hall.nd rfl rfl (sw_true rfl rfl rfl (by decide +kernel)) (pi_range1 (by rfl) T.m_range (pa_cons (pv 1) pa_nil))
          (blkOk_by (N := ["_law_hand_here", "_law_nodes", "_law_links", "_law_ends", "_law_one", "_law_other", "_law_places", "_law_turn", "_law_names", "_law_node", "_law_link"]) (sc := defScope s_law_hall) (by decide +kernel))
          (fun _ _ _ _ _ => pg_name (i := 9) sc_law_hall.nd rfl (Or.inl rfl))
          (fun _ _ _ _ _ => pts_one (pt_cmpR op_lt (k_bm (K := K) PySem.F.plainAttrs_list PySem.F.slot_list_count PySem.F.type_list_count (k_count (K := K)) (pv 3) (pa_cons (pv 9) pa_nil)) pe_int (nomark _)))
          (fun _ _ _ _ _ => pv 9))
      (pss_cons (ps_while PassesOwn.never (pt_cmpR op_gt (pe_callB call_len_seq (by rfl) T.m_len PySem.boot_len (pa_cons (pv 6) pa_nil)) pe_int (nomark _))
        (pss_cons (ps_set (i := 1) sc_law_hall.nd rfl (.inr rfl) (pe_op op_sub (pv 1) pe_int))
        (pss_cons (ps_setLc (i := 2) (own := [("_law_link", 10)]) (g := gName 10) rfl sc_law_hall.nd rfl rfl (sw_true rfl rfl rfl (by decide +kernel)) (pi_list (pv 2))
          (blkOk_by (N := ["_law_hand_here", "_law_nodes", "_law_links", "_law_ends", "_law_one", "_law_other", "_law_places", "_law_turn", "_law_names", "_law_node", "_law_link"]) (sc := defScope s_law_hall) (by decide +kernel))
          (fun _ _ _ _ _ => pg_name (i := 10) sc_law_hall.nd rfl (Or.inl rfl))
          (fun _ _ _ _ _ => pts_one (pt_cmpR op_ne (pe_ix (k_ixT (K := K)) (pv 10) pe_int (fun _ _ => rfl)) (pv 1) (nomark _)))
          (fun _ _ _ _ _ => pv 10))
        (pss_cons (ps_set (i := 3) sc_law_hall.nd rfl (.inr rfl) (pe_lst pa_nil))
        (pss_cons (ps_for PassesOwn.never rfl (pi_list (pv 2)) (pg_tup rfl (pgs_cons (pg_name (i := 4) sc_law_hall.nd rfl (Or.inl rfl)) (pgs_cons (pg_name (i := 5) sc_law_hall.nd rfl (Or.inl rfl)) pgs_nil)))
          (pss_one (ps_expr (pe_bm PySem.F.plainAttrs_list PySem.F.slot_list_extend PySem.F.type_list_extend mt_extend (pv 3) (pa_cons (pe_lst (pa_cons (pv 4) (pa_cons (pv 5) pa_nil))) pa_nil)))))
        (pss_one (ps_setLc (i := 6) (own := [("_law_node", 9)]) (g := gName 9) rfl sc_law_hall.nd rfl rfl (sw_true rfl rfl rfl (by decide +kernel)) (pi_range1 (by rfl) T.m_range (pa_cons (pv 1) pa_nil))
          (blkOk_by (N := ["_law_hand_here", "_law_nodes", "_law_links", "_law_ends", "_law_one", "_law_other", "_law_places", "_law_turn", "_law_names", "_law_node", "_law_link"]) (sc := defScope s_law_hall) (by decide +kernel))
          (fun _ _ _ _ _ => pg_name (i := 9) sc_law_hall.nd rfl (Or.inl rfl))
          (fun _ _ _ _ _ => pts_one (pt_cmpR op_lt (k_bm (K := K) PySem.F.plainAttrs_list PySem.F.slot_list_count PySem.F.type_list_count (k_count (K := K)) (pv 3) (pa_cons (pv 9) pa_nil)) pe_int (nomark _)))
          (fun _ _ _ _ _ => pv 9))))))))
      (pss_cons (ps_for PassesOwn.never rfl (pi_range1 (by rfl) T.m_range (pa_cons (pe_ifExp (pt_cmpR op_lt (pe_callB call_len_seq (by rfl) T.m_len PySem.boot_len (pa_cons (pv 6) pa_nil)) pe_int (nomark _))
            (pe_d T.d_law_draw (ok_draw T) (hr.mono (by decide)) (pa_cons (pv 0) (pa_cons pe_int pa_nil))) pe_int) pa_nil)) (pg_name (i := 7) sc_law_hall.nd rfl (Or.inl rfl))
          (pss_one (ps_expr (pe_bm PySem.F.plainAttrs_list PySem.F.slot_list_append PySem.F.type_list_append mt_append (pv 6) (pa_cons (pe_d T.d_law_draw (ok_draw T) (hr.mono (by decide)) (pa_cons (pv 0) (pa_cons (pv 1) pa_nil))) pa_nil)))))
      (pss_cons (ps_set (i := 8) sc_law_hall.nd rfl (.inr rfl) (pe_d T.d_law_shuffled (ok_shuf T) hr (pa_cons (pv 0) (pa_cons (pe_listRg rfl (by rfl) T.m_list (prg_1 (by rfl) T.m_range (pv 1))) pa_nil))))
      (pss_cons (ps_set (i := 2) sc_law_hall.nd rfl (.inl rfl) (pe_callB (cr_sortT (d := 2) (B := 100) (by decide)) (by rfl) T.m_sorted bt_sorted (pa_cons
        (pe_lc (own := [("_law_one", 4), ("_law_other", 5)]) (g := gTup K 2 (gCons (gName 4) (gCons (gName 5) gNil))) rfl sc_law_hall.nd (pi_list (pv 2))
          (blkOk_by (N := ["_law_hand_here", "_law_nodes", "_law_links", "_law_ends", "_law_one", "_law_other", "_law_places", "_law_turn", "_law_names", "_law_node", "_law_link"]) (sc := defScope s_law_hall) (by decide +kernel))
          (fun _ _ _ _ _ => pg_tup rfl (pgs_cons (pg_name (i := 4) sc_law_hall.nd rfl (Or.inl rfl)) (pgs_cons (pg_name (i := 5) sc_law_hall.nd rfl (Or.inl rfl)) pgs_nil))) (fun _ _ _ _ _ => pts_nil)
          (fun _ _ _ _ _ => pe_tup (pa_cons (pe_callB (call_min2 rfl) (by rfl) T.m_min bt_min (pa_cons (pe_ix (k_ixL (K := K)) (pv 8) (pv 4) (fun _ _ => rfl)) (pa_cons (pe_ix (k_ixL (K := K)) (pv 8) (pv 5) (fun _ _ => rfl)) pa_nil)))
            (pa_cons (pe_callB (call_max2 rfl) (by rfl) T.m_max bt_max (pa_cons (pe_ix (k_ixL (K := K)) (pv 8) (pv 4) (fun _ _ => rfl)) (pa_cons (pe_ix (k_ixL (K := K)) (pv 8) (pv 5) (fun _ _ => rfl)) pa_nil))) pa_nil)))) pa_nil)))
      (pss_one (ps_ret (pe_tup (pa_cons (pe_callTy call_tuple_of (by rfl) T.m_tuple bt_tuple (pa_cons (pv 2) pa_nil))
        (pa_cons (pe_callTy call_tuple_of (by rfl) T.m_tuple bt_tuple (pa_cons (pe_d T.d_law_shuffled (ok_shuf T) hr (pa_cons (pv 0) (pa_cons
          (pe_lc (own := [("_law_node", 9)]) (g := gName 9) rfl sc_law_hall.nd (pi_list (pv 6))
          (blkOk_by (N := ["_law_hand_here", "_law_nodes", "_law_links", "_law_ends", "_law_one", "_law_other", "_law_places", "_law_turn", "_law_names", "_law_node", "_law_link"]) (sc := defScope s_law_hall) (by decide +kernel))
          (fun _ _ _ _ _ => pg_name (i := 9) sc_law_hall.nd rfl (Or.inl rfl)) (fun _ _ _ _ _ => pts_nil)
          (fun _ _ _ _ _ => pe_ix (k_ixL (K := K)) (pv 8) (pv 9) (fun _ _ => rfl))) pa_nil))) pa_nil)) pa_nil))))))))))))), ?_⟩
    refine ⟨_, rfl, a, c, cs, 9, rfl, hh, by decide, by decide, fun H1 r r1 h1 d0 d9 => ⟨_, _, rfl, rfl, ?_⟩⟩
    obtain ⟨m, hm⟩ : ∃ m : Nat, 1 + r = (m : Int) := ⟨(1 + r).toNat, by omega⟩
    show gName 1 (V.int (1 + r)) _ H1 _
    rw [hm]
    refine ⟨_, rfl, 1, m, rfl, ⟨by decide, by decide, by omega, by omega⟩, ?_⟩
    rw [show ((m : Int) - 1).toNat = m - 1 by omega]
    refine fun D hD => ?_
    refine lc_hand walk_range (fun y (d : List Int) H => TI H y d) LnkA hD h1 (fun _ _ _ _ k h => h.im k) LnkA.nil (fun _ _ _ => trivial) (by omega) ?_ ?_
    · rintro i _ H2 _ ds hi r2 h2 hA hl ⟨rfl, rfl⟩ Qt Qf q1 q2
      refine ⟨rfl, _, rfl, _, rfl, a, c, cs, 1 + (i : Int), rfl, h2, by omega, by omega, fun H3 p r3 h3 p0 p1 => ⟨_, rfl, ?_⟩⟩
      refine ⟨by show 2 ≤ sizeLine; decide, fun t nt => ?_⟩
      obtain ⟨r4, h4⟩ := h3.new r3 (o := .tup [.int p, .int (1 + (i : Int))]) nt
      exact q1 _ _ _ r4 h4 ⟨t, rfl, upd_same⟩ (hA.add p0 p1)
    · intro H2 xs ds r2 h2 e2 p2 hA hl
      refine ⟨D, xs, rfl, SqL.of e2, fun x hx => ?_, fun ys p hys np => ?_⟩
      · obtain ⟨d, hd, t, rfl, ht⟩ := paired_memL p2 hx
        obtain ⟨o, k, rfl, _⟩ := hA.each d hd
        exact ⟨t, o, k, rfl, ht⟩
      obtain ⟨ls, p3, q3⟩ := paired_perm hys p2
      have m9 : m ≤ 9 := by omega
      have T0 : Tr m ls := hA.tr q3 (by omega)
      obtain ⟨r3, h3⟩ := h2.new (r1.trans r2) (o := .lst ys) np
      refine ⟨Nat.zero_le _, fun f nf => ?_⟩
      obtain ⟨r4, h4⟩ := h3.new r3 (o := .lst []) nf
      have nfa := h3.nn nf
      have nfc : f ≠ c := (ne_of_none h3.1 nf).symm
      have npf : p ≠ f := fun e => by rw [← e, upd_same] at nf; cases nf
      have s4 : Same (L2.upd H2 p (.lst ys)) (L2.upd (L2.upd H2 p (.lst ys)) f (.lst [])) := same_new nf
      have nf0 : H f = none := r3.none nfa nf
      refine ends_loop T0.each (by have := T0.len; omega) r4 h4 (s4 _ _ upd_same) (pti_im p3 ((im_new np).trans (same_im s4))) upd_same nf0 nfa nfc npf fun y4 y5 H5 r5 h5 ep5 pp5 ef5 => ?_
      refine places_set (by omega) ef5 fun g H6 s6 ng6 eg6 => ?_
      have r6 := r5.trans (same_keep s6)
      have h6 := h5.same s6
      have nga := h5.nn ng6
      have ng0 := r5.none nga ng6
      have ngc : g ≠ c := (ne_of_none h5.1 ng6).symm
      refine ⟨fun n σ H' => ∃ (p g : Addr) (y3 y4 y5 : Option V) (ys : List V) (ls : List (List Int)), σ = [some (.ref a), some (.int (n : Int)), some (.ref p), y3, y4, y5, some (.ref g), none, none, none, none] ∧ Keep a H H' ∧ Hand a c cs H' ∧ H' p = some (.lst ys) ∧ Paired (TI H') ys ls ∧ Tr n ls ∧ n ≤ 9 ∧
        H' g = some (.lst ((plc ls n).map V.int)) ∧ g ≠ a ∧ g ≠ c ∧ H g = none ∧ p ≠ g ∧ p ≠ a,
        ⟨m, p, g, _, _, _, ys, ls, rfl, r6, h6, s6 _ _ ep5, pti_im pp5 (same_im s6), T0, m9, eg6, nga, ngc, ng0, ne_of_none ep5 ng6, h2.nn np⟩, ?_⟩
      clear r6 h6 nga ng0 ngc ng6 eg6 s6 r5 h5 ep5 pp5 ef5 nf0 s4 npf nfc nfa h4 r4 nf h3 r3 T0 q3 p3 np hys h2 p2 e2 r2
      rintro n _ H7 ⟨p, g, y3, y4, y5, ys, ls, rfl, r7, h7, ep, pp, T1, n9, eg, nga, ngc, ng0, npg, npa⟩
      refine ⟨_, rfl, g, _, rfl, .inl (SqL.of eg), _, _, rfl, rfl, _, rfl, ?_⟩
      rw [List.length_map]
      by_cases h8 : 7 < (plc ls n).length
      · refine iteB (decide_eq_true (by omega)) ?_
        have hpl := plc_len ls n
        obtain ⟨i, rfl⟩ : ∃ i, n = i + 2 := ⟨n - 2, by omega⟩
        refine ⟨_, fun σ' H' q => q, ?_⟩
        refine ⟨_, rfl, _, _, rfl, rfl, ?_⟩
        show gName 1 (V.int (((i + 2 : Nat) : Int) - 1)) _ H7 _
        rw [show ((i + 2 : Nat) : Int) - 1 = ((i + 1 : Nat) : Int) by omega]
        have hyl := pp.length
        have hll := T1.len
        refine ⟨_, rfl, p, rfl, ⟨_, SqL.of ep⟩, fun D2 nD2 => ?_⟩
        refine lc_same walk_list (fun y (d : List Int) H => TI H y d) (fun j ds => ds = (ls.take j).filter fun l => decide (l.getD 1 0 ≠ ((i + 1 : Nat) : Int))) nD2 (fun _ _ _ _ k h => h.im k) rfl (fun H' r => SqL.of (r _ _ ep)) (by omega) ?_ ?_
        · rintro j x H8 _ ds hj r8 hA ⟨rfl, ex⟩ Qt Qf q1 q2
          obtain ⟨l, hl, b, rfl, hb⟩ := paired_get pp ex
          obtain ⟨o, t, rfl, _⟩ := T1.each l (List.mem_of_getElem? hl)
          have hb8 := r8 _ _ hb
          refine ⟨rfl, _, rfl, b, _, 1, .int t, rfl, rfl, SqT.of hb8, rfl, _, rfl, rfl, _, rfl, ?_⟩
          have hf := filterL (fun l : List Int => decide (l.getD 1 0 ≠ ((i + 1 : Nat) : Int))) ls j [o, t] hl
          by_cases hti : t = ((i + 1 : Nat) : Int)
          · refine iteN (by rw [decide_eq_true (by rw [hti])]; rfl) ?_
            refine q2 _ (Same.refl _) ?_
            have e0 : ¬ decide (([o, t] : List Int).getD 1 0 ≠ ((i + 1 : Nat) : Int)) = true := fun q => (of_decide_eq_true q : t ≠ ((i + 1 : Nat) : Int)) hti
            rw [hA, hf, if_neg e0]
          · refine iteB (by rw [decide_eq_false (fun e => hti (V.int.inj e))]; rfl) ?_
            refine ⟨_, rfl, q1 _ _ _ (Same.refl _) ⟨b, rfl, hb8⟩ ?_⟩
            have e0 : decide (([o, t] : List Int).getD 1 0 ≠ ((i + 1 : Nat) : Int)) = true := decide_eq_true hti
            rw [hA, hf, if_pos e0]
        · intro H8 xs ds r8 e8 p8 hA _
          rw [hyl, List.take_length] at hA
          have T2 := T1.cut
          rw [← hA] at T2
          obtain ⟨nDa, nDc⟩ : D2 ≠ a ∧ D2 ≠ c := ⟨h7.nn nD2, (ne_of_none h7.1 nD2).symm⟩
          have nD0 := r7.none nDa nD2
          refine ⟨Nat.zero_le _, fun f nf => ?_⟩
          have h8 := h7.same r8
          have r80 := r7.trans (same_keep r8)
          obtain ⟨r9, h9⟩ := h8.new r80 (o := .lst []) nf
          have nfa := h8.nn nf
          have nfc : f ≠ c := (ne_of_none h8.1 nf).symm
          have npf : D2 ≠ f := ne_of_none e8 nf
          have s9 : Same H8 (L2.upd H8 f (.lst [])) := same_new nf
          have nf0 : H f = none := r80.none nfa nf
          refine ends_loop T2.each (by have := T2.len; omega) r9 h9 (s9 _ _ e8) (pti_im p8 (same_im s9)) upd_same nf0 nfa nfc npf fun y4 y5 Ha ra ha ea pa efa => ?_
          refine places_set (by omega) efa fun g2 Hb sb ngb egb => ?_
          have nga2 := ha.nn ngb
          exact ⟨i + 1, by omega, D2, g2, _, _, _, xs, ds, rfl, ra.trans (same_keep sb), ha.same sb, sb _ _ ea, pti_im pa (same_im sb), T2, by omega, egb, nga2, (ne_of_none ha.1 ngb).symm, ra.none nga2 ngb, ne_of_none ea ngb, nDa⟩
      · refine iteN (decide_eq_false (by omega)) ?_
        have pl7 : (plc ls n).length ≤ 7 := by omega
        have pl1 := plc_pos T1
        have n1 := T1.pos
        refine draws_loop n1 n9 (fun i hi => plc_rg hi) pl7 r7 h7 ep pp eg ng0 nga ngc npg npa fun y7 pl' H8 r8 h8 ep8 pp8 eg8 a1 a2 a3 a4 => ?_
        -- the names
        refine ⟨_, rfl, _, rfl, n, rfl, RgOk.of_le (by decide) (by omega) (by decide) (by omega), fun q nq => ?_⟩
        rw [rg_upTo]
        obtain ⟨r9, h9⟩ := h8.new r8 (o := .lst ((upTo n).map V.int)) nq
        have s9 : Same H8 (L2.upd H8 q (.lst ((upTo n).map V.int))) := same_new nq
        refine ⟨a, c, cs, q, upTo n, rfl, h9, upd_same, by rw [upTo_len]; omega, fun H10 u us r10 h10 eu hus => ?_⟩
        have N : Nms n us := ⟨hus⟩
        have ep10 := r10 _ _ npa (s9 _ _ ep8)
        have eg10 := r10 _ _ nga (s9 _ _ eg8)
        have im10 := (same_im s9).trans (h9.im r10)
        have pp10 := pti_im pp8 im10
        have r100 := r9.trans r10
        have hyl := pp.length
        have hll := T1.len
        -- the links renamed
        refine ⟨_, rfl, p, rfl, ⟨_, SqL.of ep10⟩, fun D2 nD2 => ?_⟩
        refine lc_map walk_list (fun y (d : List Int) H => TI H y d) (fun j => ren us (ls.getD j [])) nD2 (fun _ _ _ _ k h => h.im k) (fun H' r => SqL.of (r _ _ ep10)) (by omega) ?_ ?_
        · rintro j x H11 _ hj r11 ⟨rfl, ex⟩ Qt q1
          obtain ⟨l, hl, b, rfl, hb⟩ := paired_get pp10 ex
          obtain ⟨o, t, rfl, o0, ot, tn⟩ := T1.kid (List.mem_of_getElem? hl)
          have eu11 := SqL.of (K := K) (r11 _ _ eu)
          have ao : atI (us.map V.int) o = some (.int (nmOf us o)) := L2.at_of (by omega) (get_map_int (N.get o0 (by omega)))
          have at' : atI (us.map V.int) t = some (.int (nmOf us t)) := L2.at_of (by omega) (get_map_int (N.get (by omega) tn))
          refine ⟨b, _, rfl, SqT.of (r11 _ _ hb), rfl, .int o, [.int t], rfl, .int t, [], rfl, rfl, rfl, ?_⟩
          refine ⟨_, rfl, _, rfl, u, _, o, _, rfl, rfl, eu11, ao, _, rfl, _, rfl, u, _, t, _, rfl, rfl, eu11, at', _, _, rfl, ?_⟩
          refine ⟨_, rfl, _, rfl, u, _, o, _, rfl, rfl, eu11, ao, _, rfl, _, rfl, u, _, t, _, rfl, rfl, eu11, at', _, _, rfl, ?_⟩
          refine ⟨by show 2 ≤ sizeLine; decide, fun tt ntt => q1 _ _ (same_new ntt) ⟨tt, rfl, ?_⟩⟩
          rw [show ls.getD j [] = [o, t] by rw [List.getD_eq_getElem?_getD, hl]; rfl]
          exact upd_same
        · intro H11 xs2 r11 e11 p11
          rw [hyl, range_map_getF ([] : List Int) ls (ren us)] at p11
          have hxl := p11.length
          rw [List.length_map] at hxl
          refine ⟨D2, xs2, rfl, SqL.of e11, by omega, fun x hx => ?_, fun zs p2 hz hpw np2 => ?_⟩
          · obtain ⟨d, hd, t, rfl, ht⟩ := paired_memL p11 hx
            obtain ⟨l, hl, rfl⟩ := List.mem_map.mp hd
            obtain ⟨b1, b2⟩ := ren_bd N n9 (T1.kid hl)
            exact ⟨_, ⟨t, rfl, SqT.of ht⟩, b1, b2⟩
          obtain ⟨ls', pz, hz2⟩ := paired_perm hz p11
          have hs := paired_pw pz hpw
          have h11 := h10.same r11
          have r110 := r100.trans (same_keep r11)
          obtain ⟨r12, h12⟩ := h11.new r110 (o := .lst zs) np2
          have s12 : Same H11 (L2.upd H11 p2 (.lst zs)) := same_new np2
          have ezs := upd_same (H := H11) (a := p2) (o := HO.lst zs)
          refine ⟨_, rfl, p2, zs, rfl, .inl ⟨SqL.of upd_same, fun t nt => ?_⟩⟩
          obtain ⟨r13, h13⟩ := h12.new r12 (o := .tup zs) nt
          have s13 : Same (L2.upd H11 p2 (.lst zs)) (L2.upd (L2.upd H11 p2 (.lst zs)) t (.tup zs)) := same_new nt
          have s113 := (r11.trans s12).trans s13
          have eg13 := s113 _ _ eg10
          have eu13 := s113 _ _ eu
          have et13 := upd_same (H := L2.upd H11 p2 (.lst zs)) (a := t) (o := HO.tup zs)
          have pz13 := pti_im pz (same_im (s12.trans s13))
          generalize L2.upd (L2.upd H11 p2 (.lst zs)) t (.tup zs) = H13 at *
          refine ⟨_, rfl, _, rfl, g, rfl, ⟨_, SqL.of eg13⟩, fun D4 nD4 => ?_⟩
          refine lc_map walk_list (fun y (d : Int) _ => y = V.int d) (fun j => nmOf us (pl'.getD j 0)) nD4 (fun _ _ _ _ _ h => h) (fun H' r => SqL.of (r _ _ eg13)) (by rw [List.length_map]; omega) ?_ ?_
          · rintro j x H14 _ hj r14 ⟨rfl, ex⟩ Qt q1
            obtain ⟨i, hi, rfl⟩ := map_int_get ex
            obtain ⟨i0, i1⟩ := a2 i (List.mem_of_getElem? hi)
            refine ⟨rfl, _, rfl, _, rfl, u, _, i, .int (nmOf us i), rfl, rfl, SqL.of (r14 _ _ eu13), L2.at_of (by omega) (get_map_int (N.get i0 i1)), ?_⟩
            refine q1 _ _ (Same.refl _) ?_
            rw [show pl'.getD j 0 = i by rw [List.getD_eq_getElem?_getD, hi]; rfl]
          · intro H14 xs4 r14 e14 p14
            have ey := paired_map p14
            subst ey
            rw [List.length_map, range_map_getF (0 : Int) pl' (nmOf us)] at e14
            have h14 := h13.same r14
            refine ⟨a, c, cs, D4, pl'.map (nmOf us), rfl, h14, e14, by rw [List.length_map]; omega, fun H15 g3 ps' r15 h15 e15 hps => ?_⟩
            refine ⟨g3, _, rfl, .inl ⟨SqL.of e15, fun t2 nt2 => ⟨by show 2 ≤ sizeLine; decide, fun qq nqq => ?_⟩⟩⟩
            obtain ⟨r16, h16⟩ := h15.new ((r13.trans (same_keep r14)).trans r15) (o := .tup (ps'.map V.int)) nt2
            obtain ⟨r17, h17⟩ := h16.new r16 (o := .tup [.ref t, .ref t2]) nqq
            have s16 : Same H15 (L2.upd H15 t2 (.tup (ps'.map V.int))) := same_new nt2
            have s17 : Same (L2.upd H15 t2 (.tup (ps'.map V.int))) (L2.upd (L2.upd H15 t2 (.tup (ps'.map V.int))) qq (.tup [.ref t, .ref t2])) := same_new nqq
            have im17 := ((same_im r14).trans (h14.im r15)).trans (same_im (s16.trans s17))
            have hok := hall_ok (ls' := ls') (ps' := ps') T1 n9 N (fun i i0 i1 hc => a1 i (plc_mem i0 i1 hc)) a2 (by omega) a3 hz2 hs hps
            have l1 := hz2.length_eq
            rw [List.length_map] at l1
            have l2 := hps.length_eq
            rw [List.length_map] at l2
            exact k _ qq (.ref t) (.ref t2) ls' ps' r17 h17 upd_same ⟨t, zs, rfl, im17 _ _ et13, pti_im pz13 im17⟩ ⟨t2, rfl, s17 _ _ upd_same⟩ hok (by omega) (by omega)
end
end GA
/-! GaIs: _law_is, of two texts. -/
namespace GA
open PySem PySem.Spec PyProof.Rows L2
section
variable {P : Program} {w : World} {K : PySem.W.Frag} {mg : Str → Option Value} {base : Heap}
def sp_law_is : Sp := fun vs H Q _ => ∃ z : Str, vs = [.str z, .str z] ∧ ∀ H', Same H H' → Q (.bl true) H'
theorem ok_law_is (T : Txt K mg) : FnOk P w K mg base CX0 1 (He.ga K "_law_is") (fdOf K ("_law_is", none)) ["_law_told", "_law_due"] sp_law_is := by
  refine okF T.d_law_is.fn sc_law_is (fun vs H Q E h => ?_) (fun cdv A outer s H vs Q E hr h => ?_)
  · obtain ⟨z, rfl, _⟩ := h; rfl
  · obtain ⟨z, rfl, k⟩ := h
    refine ⟨_, pss_cons (ps_if (pt_val (pe_callB call_isiT (by rfl) T.m_isinstance bt_isinstance (pa_cons (pv 1) (pa_cons (pe_tup (pa_cons (pe_tyN T.m_tuple bt_tuple) (pa_cons (pe_tyN T.m_list bt_list) pa_nil))) pa_nil))))
        (pss_cons ps_never (pss_one ps_never)) pss_nil)
      (pss_one (ps_ret (pe_and (pe_cmpR op_eq (pe_callB call_isi (by rfl) T.m_isinstance bt_isinstance (pa_cons (pv 0) (pa_cons (pe_tyN T.m_bool bt_bool) pa_nil))) (pe_callB call_isi (by rfl) T.m_isinstance bt_isinstance (pa_cons (pv 1) (pa_cons (pe_tyN T.m_bool bt_bool) pa_nil))) (nomark _))
        (pe_one (pe_cmpR op_eq (pv 0) (pv 1) (nomark _)))))), ?_⟩
    refine ⟨_, rfl, by show 2 ≤ sizeLine; decide, fun t nt => ?_⟩
    have s1 : Same H (upd H t (.tup [.ty "tuple", .ty "list"])) := same_new nt
    refine ⟨_, t, _, _, [.type "tuple", .type "list"], false, rfl, upd_same, .cons (.ty _) (.cons (.ty _) .nil), .base (.str z), kitAny_cons (b := false) (kit_ty (by decide +kernel)) (fun _ => kitAny_cons (b := false) (kit_ty (by decide +kernel)) (fun _ => kitAny_nil) (fun e => nomatch e)) (fun e => nomatch e), false, rfl, ?_⟩
    refine iteF ?_
    refine ⟨_, rfl, _, _, _, _, false, rfl, .ty _, .base (.str z), kit_ty (by decide +kernel), ?_⟩
    refine ⟨_, rfl, _, _, _, _, false, rfl, .ty _, .base (.str z), kit_ty (by decide +kernel), rfl, ?_⟩
    refine ⟨_, rfl, ?_⟩
    refine iteB (decide_eq_true rfl) ?_
    refine ⟨_, rfl, _, rfl, rfl, ?_⟩
    exact bl_true (decide_eq_true rfl) (k _ s1)
end
end GA
/-! GaLaw: law. (Printed by gen_law.py.) -/
namespace GA
open PySem PySem.Spec PyProof.Rows L2
theorem web_two {m : Int} {ls : List (List Int)} (m7 : m ≤ 7) (ok : WiresOk m ls) : ∀ l ∈ ls, l.length = 2 ∧ ∀ n ∈ l, Fig n := fun l hl => by
  obtain ⟨y, x, rfl, h1, h2, h3, h4, h5⟩ := ok.1 l hl
  refine ⟨rfl, fun n hn => ?_⟩
  have : n = y ∨ n = x := by simpa using hn
  rcases this with rfl | rfl <;> exact ⟨by omega, by omega⟩
theorem web_rows_ok {m : Int} {ls : List (List Int)} (m1 : 1 ≤ m) (m7 : m ≤ 7) (ok : WiresOk m ls) : ∀ r ∈ webRows m ls, RowOk r :=
  rows_ok (w0 := Str.ofString "machines") (w1 := Str.ofString "wire") (a := [m]) (ls := ls) w_machines w_wire (fun n hn => by rw [List.mem_singleton.mp hn]; exact ⟨by omega, by omega⟩) (by show 1 ≤ 1000; decide) (fun l hl => (web_two m7 ok l hl).2) (fun l hl => by rw [(web_two m7 ok l hl).1]; decide)
theorem web_fig {m : Int} {ls : List (List Int)} (m1 : 1 ≤ m) (m7 : m ≤ 7) (ok : WiresOk m ls) (h : ls.length ≤ 900) : WebFig m ls :=
  ⟨⟨by omega, by omega⟩, fun l hl => (web_two m7 ok l hl).2, fun l hl => by rw [(web_two m7 ok l hl).1]; decide, h⟩
theorem row_cat {K : PySem.W.Frag} {H : Hp} {w : Str} {ns : List Int} {t : Addr} {v : V} {Q : VK} (ht : H t = some (.tup [.str w])) (tv : TI H v ns) (hn : ns.length ≤ 1000)
    (k : ∀ H' r, Same H H' → RowV H' r (w, ns) → Q r H') : rCatT K (.ref t) v H Q := by
  obtain ⟨b, rfl, hb⟩ := tv
  refine ⟨t, b, _, _, rfl, rfl, SqT.of ht, SqT.of hb, by simp, size_ok (by rw [List.length_map]; show 1 + _ ≤ _; omega), fun e => k H _ (Same.refl _) ⟨t, rfl, ?_⟩, fun _ p np => k _ _ (same_new np) ⟨p, rfl, upd_same⟩⟩
  show H t = some (.tup (V.str w :: ns.map V.int))
  rw [e]; exact ht
theorem rows_pair {H : Hp} {w1 : Str} {xs : List V} {ls : List (List Int)} (h : Paired (fun y (d : List Int) => RowV H y (w1, d)) xs ls) : Paired (RowV H) xs (ls.map fun l => (w1, l)) := by
  induction h with
  | nil => exact .nil
  | cons q _ ih => exact .cons q ih
section
variable {P : Program} {w : World} {K : PySem.W.Frag} {mg : Str → Option Value} {base : Heap}
def sp_law (K : PySem.W.Frag) : Sp := fun vs H Q _ => ∃ l, ∃ ns : List Int, vs = [.ref l] ∧ SqL K H l (ns.map V.int) ∧ ns.length ≤ 63 ∧ ∀ H', Q (.bl true) H'
theorem ok_law (T : Txt K mg) : FnOk P w K mg base CX0 10 (He.ga K "law") (fdOf K ("law", none)) ["_law_script"] (sp_law K) := by
  refine okF T.d_law.fn sc_law (fun vs H Q E h => ?_) (fun cdv A outer s H vs Q E hr h => ?_)
  · obtain ⟨l, ns, rfl, _⟩ := h; rfl
  · obtain ⟨l, ns, rfl, hl, hn, k⟩ := h
    refine ⟨_, pss_cons (ps_set (i := 1) sc_law.nd rfl (.inl rfl) (pe_d T.d_law_hand (ok_law_hand T) (hr.mono (by decide)) (pa_cons (pv 0) pa_nil)))
      (pss_cons (ps_for PassesOwn.never rfl (pi_range1 (by rfl) T.m_range (pa_cons pe_int pa_nil)) (pg_name (i := 2) sc_law.nd rfl (Or.inl rfl))
        (pss_cons (ps_asg (pe_d T.d_law_web (ok_law_web T) (hr.mono (by decide)) (pa_cons (pv 1) (pa_cons pe_int pa_nil))) (pg_tup rfl (pgs_cons (pg_name (i := 3) sc_law.nd rfl (Or.inl rfl)) (pgs_cons (pg_name (i := 4) sc_law.nd rfl (Or.inl rfl)) pgs_nil))))
        (pss_cons (ps_set (i := 5) sc_law.nd rfl (.inl rfl) (pe_C T.C_Web T.t_Web_init (ok_webI T) (hr.mono (by decide)) (pa_cons (pv 3) (pa_cons (pv 4) pa_nil))))
        (pss_cons (ps_set (i := 6) sc_law.nd rfl (.inl rfl) (pe_d T.d_law_lines (ok_law_lines T) (hr.mono (by decide)) (pa_cons (pe_op op_cat (pe_lst (pa_cons (pe_tup (pa_cons pe_str (pa_cons (pv 3) pa_nil))) pa_nil))
          (pe_lc (own := [("_law_wire", 13)]) (g := gName 13) rfl sc_law.nd (pi_tup (pv 4)) (blkOk_by (N := ["_law_script", "_law_hand_here", "_law_turn", "_law_machines", "_law_wires_here", "_law_web_here", "_law_due", "_law_writers", "_law_diaries", "_law_record", "_law_links", "_law_places", "_law_hall_here", "_law_wire", "_law_diary", "_law_link"]) (sc := defScope s_law) (by decide +kernel))
            (fun _ _ _ _ _ => pg_name (i := 13) sc_law.nd rfl (Or.inl rfl)) (fun _ _ _ _ _ => pts_nil) (fun _ _ _ _ _ => pe_op (k_catA (K := K)) (pe_tup (pa_cons pe_str pa_nil)) (pv 13)))) pa_nil)))
        (pss_cons (ps_if (PW.pt (pw_or (pt_not (pt_val (pe_d T.d_law_is (ok_law_is T) (hr.mono (by decide)) (pa_cons (pe_d T.d_web_text (ok_web_text T) (hr.mono (by decide)) (pa_cons (pv 5) pa_nil)) (pa_cons (pv 6) pa_nil))))) (pw_or (pt_cmpR (op_neOwn (ok_webEq T) T.n_Web (hr.mono (by decide)) T.t_Web_eq.b) (pe_d T.d_read_web (ok_read_web T) (hr.mono (by decide)) (pa_cons (pv 6) pa_nil)) (pv 5) (nomark _)) (pw_or1 (pt_cmpR op_ne (pe_d T.d_web_text (ok_web_text T) (hr.mono (by decide)) (pa_cons (pe_d T.d_read_web (ok_read_web T) (hr.mono (by decide)) (pa_cons (pv 6) pa_nil)) pa_nil)) (pv 6) (nomark _)))))) (pss_one (ps_ret pe_bl)) pss_nil)
        (pss_cons (ps_asg (pe_d T.d_law_some_record (ok_record T) (hr.mono (by decide)) (pa_cons (pv 1) pa_nil)) (pg_tup rfl (pgs_cons (pg_name (i := 7) sc_law.nd rfl (Or.inl rfl)) (pgs_cons (pg_name (i := 8) sc_law.nd rfl (Or.inl rfl)) pgs_nil))))
        (pss_cons (ps_set (i := 9) sc_law.nd rfl (.inl rfl) (pe_C T.C_Record T.t_Record_init (ok_recI T) (hr.mono (by decide)) (pa_cons (pv 7) (pa_cons (pv 8) pa_nil))))
        (pss_cons (ps_set (i := 6) sc_law.nd rfl (.inl rfl) (pe_d T.d_law_lines (ok_law_lines T) (hr.mono (by decide)) (pa_cons (pe_op op_cat (pe_lst (pa_cons (pe_op op_catT (pe_tup (pa_cons pe_str pa_nil)) (pv 7)) pa_nil))
          (pe_lc (own := [("_law_diary", 14)]) (g := gName 14) rfl sc_law.nd (pi_tup (pv 8)) (blkOk_by (N := ["_law_script", "_law_hand_here", "_law_turn", "_law_machines", "_law_wires_here", "_law_web_here", "_law_due", "_law_writers", "_law_diaries", "_law_record", "_law_links", "_law_places", "_law_hall_here", "_law_wire", "_law_diary", "_law_link"]) (sc := defScope s_law) (by decide +kernel))
            (fun _ _ _ _ _ => pg_name (i := 14) sc_law.nd rfl (Or.inl rfl)) (fun _ _ _ _ _ => pts_nil) (fun _ _ _ _ _ => pe_op (k_catA (K := K)) (pe_tup (pa_cons pe_str pa_nil)) (pv 14)))) pa_nil)))
        (pss_cons (ps_if (PW.pt (pw_or (pt_not (pt_val (pe_d T.d_law_is (ok_law_is T) (hr.mono (by decide)) (pa_cons (pe_d T.d_record_text (ok_record_text T) (hr.mono (by decide)) (pa_cons (pv 9) pa_nil)) (pa_cons (pv 6) pa_nil))))) (pw_or1 (pt_cmpR (op_neOwn (ok_recEq T) T.n_Record (hr.mono (by decide)) T.t_Record_eq.b) (pe_d T.d_read_record (ok_read_record T) (hr.mono (by decide)) (pa_cons (pv 6) pa_nil)) (pv 9) (nomark _))))) (pss_one (ps_ret pe_bl)) pss_nil)
        (pss_cons (ps_if (pt_cmpR op_ne (pe_d T.d_record_text (ok_record_text T) (hr.mono (by decide)) (pa_cons (pe_d T.d_read_record (ok_read_record T) (hr.mono (by decide)) (pa_cons (pv 6) pa_nil)) pa_nil)) (pv 6) (nomark _)) (pss_one (ps_ret pe_bl)) pss_nil)
        (pss_cons (ps_asg (pe_d T.d_law_hall (ok_law_hall T) (hr.mono (by decide)) (pa_cons (pv 1) pa_nil)) (pg_tup rfl (pgs_cons (pg_name (i := 10) sc_law.nd rfl (Or.inl rfl)) (pgs_cons (pg_name (i := 11) sc_law.nd rfl (Or.inl rfl)) pgs_nil))))
        (pss_cons (ps_set (i := 12) sc_law.nd rfl (.inl rfl) (pe_C T.C_Hall T.t_Hall_init (ok_hallI T) (hr.mono (by decide)) (pa_cons (pv 10) (pa_cons (pv 11) pa_nil))))
        (pss_cons (ps_set (i := 6) sc_law.nd rfl (.inl rfl) (pe_d T.d_law_lines (ok_law_lines T) (hr.mono (by decide)) (pa_cons (pe_op op_cat (pe_lst (pa_cons (pe_op op_catT (pe_tup (pa_cons pe_str pa_nil)) (pv 11)) pa_nil))
          (pe_lc (own := [("_law_link", 15)]) (g := gName 15) rfl sc_law.nd (pi_tup (pv 10)) (blkOk_by (N := ["_law_script", "_law_hand_here", "_law_turn", "_law_machines", "_law_wires_here", "_law_web_here", "_law_due", "_law_writers", "_law_diaries", "_law_record", "_law_links", "_law_places", "_law_hall_here", "_law_wire", "_law_diary", "_law_link"]) (sc := defScope s_law) (by decide +kernel))
            (fun _ _ _ _ _ => pg_name (i := 15) sc_law.nd rfl (Or.inl rfl)) (fun _ _ _ _ _ => pts_nil) (fun _ _ _ _ _ => pe_op (k_catA (K := K)) (pe_tup (pa_cons pe_str pa_nil)) (pv 15)))) pa_nil)))
        (pss_one (ps_if (PW.pt (pw_or (pt_not (pt_val (pe_d T.d_law_is (ok_law_is T) (hr.mono (by decide)) (pa_cons (pe_d T.d_hall_text (ok_hall_text T) (hr.mono (by decide)) (pa_cons (pv 12) pa_nil)) (pa_cons (pv 6) pa_nil))))) (pw_or (pt_cmpR (op_neOwn (ok_hallEq T) T.n_Hall (hr.mono (by decide)) T.t_Hall_eq.b) (pe_d T.d_read_hall (ok_read_hall T) (hr.mono (by decide)) (pa_cons (pv 6) pa_nil)) (pv 12) (nomark _)) (pw_or1 (pt_cmpR op_ne (pe_d T.d_hall_text (ok_hall_text T) (hr.mono (by decide)) (pa_cons (pe_d T.d_read_hall (ok_read_hall T) (hr.mono (by decide)) (pa_cons (pv 6) pa_nil)) pa_nil)) (pv 6) (nomark _)))))) (pss_one (ps_ret pe_bl)) pss_nil)))))))))))))))
      (pss_one (ps_ret pe_bl))), ?_⟩
    refine ⟨_, rfl, l, ns, rfl, hl, hn, fun H1 a c cs _ hh => ?_⟩
    refine ⟨4, rfl, by decide, by decide, for_it walk_r0 (fun i σ H' => ∃ y2 y3 y4 y5 y6 y7 y8 y9 y10 y11 y12, σ = [some (.ref l), some (.ref a), y2, y3, y4, y5, y6, y7, y8, y9, y10, y11, y12, none, none, none] ∧ Hand a c cs H')
      ⟨none, none, none, none, none, none, none, none, none, none, none, rfl, hh⟩ (fun _ _ _ _ _ => trivial) ?_ ?_⟩
    · clear hh
      rintro i _ _ _ H1 hi ⟨y2, y3, y4, y5, y6, y7, y8, y9, y10, y11, y12, rfl, hh⟩ ⟨rfl, rfl⟩
      refine ⟨_, rfl, a, c, cs, rfl, hh, fun H2 r wv m ls r2 h2 er tw m1 m7 wok wl => ?_⟩
      clear r2 hh
      obtain ⟨ar, xs, rfl, ear, px⟩ := id tw
      refine ⟨r, _, rfl, SqT.of er, rfl, .int m, [.ref ar], rfl, .ref ar, [], rfl, rfl, ?_⟩
      have wro := web_rows_ok m1 m7 wok
      have wfig := web_fig m1 m7 wok (by omega)
      refine ⟨_, rfl, _, rfl, ?_⟩
      intro x dx nx ndx nex
      have s4 : Same H2 (L2.upd (L2.upd H2 dx (.own x)) x (.ins (He.ga K "Web") dx [])) := same_mut (same_new ndx) nx
      refine ⟨x, dx, m, .ref ar, ls, rfl, upd_same, m1, m7, tw.im (same_im s4), wok, by omega, fun H5 k5 e5 => ⟨rfl, ?_⟩⟩
      have s5 : Same H2 H5 := fun b0 o e => k5 b0 o (ne_of_none e nx) (s4 b0 o e)
      have wat : WebAt (He.ga K "Web") H5 (.ref x) m ls := ⟨x, dx, .ref ar, rfl, e5, tw.im (same_im s5)⟩
      have h5 := h2.same s5
      have ear5 := s5 _ _ ear
      have px5 := pti_im px (same_im s5)
      clear k5 s4 nx ndx nex
      refine ⟨_, rfl, by show 2 ≤ sizeLine; decide, fun t0 nt0 => ⟨by show 1 ≤ sizeLine; decide, fun l0 nl0 => ?_⟩⟩
      have sa : Same H5 (L2.upd (L2.upd H5 t0 (.tup [.str "machines", .int m])) l0 (.lst [.ref t0])) := (same_new nt0).trans (same_new nl0)
      have rv0 : RowV (L2.upd (L2.upd H5 t0 (.tup [.str "machines", .int m])) l0 (.lst [.ref t0])) (.ref t0) ("machines", [m]) := ⟨t0, rfl, same_new nl0 _ _ upd_same⟩
      have el0 : (L2.upd (L2.upd H5 t0 (.tup [.str "machines", .int m])) l0 (.lst [.ref t0])) l0 = some (.lst [.ref t0]) := upd_same
      generalize hR : V.ref t0 = R0 at *
      generalize (L2.upd (L2.upd H5 t0 (.tup [.str "machines", .int m])) l0 (.lst [R0])) = Hz at *
      have eza := sa _ _ ear5
      have pza := pti_im px5 (same_im sa)
      have hxl : xs.length = ls.length := px5.length
      refine ⟨_, rfl, ar, rfl, ⟨_, SqT.of eza⟩, fun D nD => ?_⟩
      refine lc_map walk_tup (fun y (d : List Int) H => RowV H y ("wire", d)) (fun i => ls.getD i []) nD (fun _ _ _ _ k h => h.im k) (fun H' r => SqT.of (r _ _ eza)) (by omega) ?_ ?_
      · rintro i x H6 _ hi r6 ⟨rfl, ex⟩ Qt q
        obtain ⟨d, hd, td⟩ := paired_get pza ex
        refine ⟨rfl, by show 1 ≤ sizeLine; decide, fun t1 nt1 => ⟨_, rfl, row_cat upd_same (td.im (same_im (r6.trans (same_new nt1)))) (wfig.two d (List.mem_of_getElem? hd)) fun H7 r7 s7 rv => q _ _ ((same_new nt1).trans s7) ?_⟩⟩
        rw [getD_of hd]; exact rv
      intro H6 ys r6 e6 p6
      rw [hxl, range_map_get ([] : List Int) ls] at p6
      have hyl := p6.length
      have el6 := r6 _ _ el0
      refine ⟨l0, D, _, _, rfl, rfl, el6, e6, size_ok (by show 1 + ys.length ≤ 100000; omega), fun q nq => ?_⟩
      have sq := same_new (o := .lst ([R0] ++ ys)) nq
      refine ⟨q, R0 :: ys, webRows m ls, rfl, upd_same, .cons (rv0.im ((same_im r6).trans (same_im sq))) ((rows_pair p6).mono fun _ _ h => h.im (same_im sq)), wro, by show (ls.map _).length + 1 ≤ 1000; rw [List.length_map]; omega, fun H7 s7 => ?_⟩
      have s17 : Same H5 H7 := ((sa.trans r6).trans sq).trans s7
      clear sq el6 hyl p6 e6 r6 hxl pza eza el0 rv0 sa nt0 nl0 nD nq s7
      have h7 := h5.same s17
      have wat7 := wat.same s17
      refine ⟨_, rfl, .ref x, m, ls, rfl, wat7, wfig, fun H8 s8 => ⟨_, rfl, _, rfl, fun H9 s9 => ⟨true, rfl, iteF ?_⟩⟩⟩
      refine ⟨_, rfl, m, ls, rfl, m1, m7, wok, by omega, fun H10 v s10 wa => ?_⟩
      obtain ⟨p, dy, wu, rfl, ep, tu⟩ := id wa
      have wat10 := ((wat7.same s8).same s9).same s10
      obtain ⟨_, dz, wz, e0, ez, tz⟩ := id wat10
      cases e0
      refine ⟨_, rfl, p, x, dy, dz, _, _, rfl, rfl, ep, ez, ⟨m, ls, wa, wat10⟩, fun H11 s11 => ⟨_, rfl, iteF ?_⟩⟩
      refine ⟨_, rfl, m, ls, rfl, m1, m7, wok, by omega, fun H12 v2 s12 wa2 => ⟨v2, m, ls, rfl, wa2, wfig, fun H13 s13 => ⟨_, rfl, rfl, _, rfl, iteN (by rw [decide_eq_true rfl]; rfl) ?_⟩⟩⟩
      have h13 := ((((((h7.same s8).same s9).same s10).same s11).same s12).same s13)
      clear s8 s9 s10 s11 s12 s13 wa2 wat10 wa ep tu ez tz wat7 wat h7 s17 px5 ear5 h5 s5 e5 wro wfig px ear tw m1 m7 wok wl h2 er
      refine ⟨_, rfl, a, c, cs, rfl, h13, fun H2 r wv dv ws ds r2 h2 er tw td rok w7 => ?_⟩
      clear r2 h13
      obtain ⟨ar, xs, rfl, ear, px⟩ := id td
      refine ⟨r, _, rfl, SqT.of er, rfl, wv, [.ref ar], rfl, .ref ar, [], rfl, rfl, ?_⟩
      obtain ⟨fw, fd, ld⟩ := rok.figs (by omega)
      have rfew := rok.few
      have wro := rows_ok (w0 := Str.ofString "writers") (w1 := Str.ofString "diary") (a := ws) (ls := ds) w_writers w_diary fw (by omega) fd ld
      refine ⟨_, rfl, _, rfl, ?_⟩
      intro x dx nx ndx nex
      have s4 : Same H2 (L2.upd (L2.upd H2 dx (.own x)) x (.ins (He.ga K "Record") dx [])) := same_mut (same_new ndx) nx
      refine ⟨x, dx, wv, .ref ar, ws, ds, rfl, upd_same, tw.im (same_im s4), td.im (same_im s4), rok, fun H5 pl k5 e5 => ⟨rfl, ?_⟩⟩
      have s5 : Same H2 H5 := fun b0 o e => k5 b0 o (ne_of_none e nx) (s4 b0 o e)
      have wat : RecAt (He.ga K "Record") H5 (.ref x) ws ds := ⟨x, dx, wv, .ref ar, pl, rfl, e5, tw.im (same_im s5), td.im (same_im s5)⟩
      have h5 := h2.same s5
      have ear5 := s5 _ _ ear
      have px5 := pti_im px (same_im s5)
      have tw5 := tw.im (same_im s5)
      clear k5 s4 nx ndx nex
      refine ⟨by show 1 ≤ sizeLine; decide, fun t0 nt0 => ⟨_, rfl, ?_⟩⟩
      refine row_cat upd_same (tw5.im (im_new nt0)) (by omega) fun Hy R0 sy rv => ⟨by show 1 ≤ sizeLine; decide, fun l0 nl0 => ?_⟩
      have sa : Same H5 (L2.upd Hy l0 (.lst [R0])) := ((same_new nt0).trans sy).trans (same_new nl0)
      have rv0 : RowV (L2.upd Hy l0 (.lst [R0])) R0 ("writers", ws) := rv.im (im_new nl0)
      have el0 : (L2.upd Hy l0 (.lst [R0])) l0 = some (.lst [R0]) := upd_same
      generalize (L2.upd Hy l0 (.lst [R0])) = Hz at *
      have eza := sa _ _ ear5
      have pza := pti_im px5 (same_im sa)
      have hxl : xs.length = ds.length := px5.length
      refine ⟨_, rfl, ar, rfl, ⟨_, SqT.of eza⟩, fun D nD => ?_⟩
      refine lc_map walk_tup (fun y (d : List Int) H => RowV H y ("diary", d)) (fun i => ds.getD i []) nD (fun _ _ _ _ k h => h.im k) (fun H' r => SqT.of (r _ _ eza)) (by omega) ?_ ?_
      · rintro i x H6 _ hi r6 ⟨rfl, ex⟩ Qt q
        obtain ⟨d, hd, td⟩ := paired_get pza ex
        refine ⟨rfl, by show 1 ≤ sizeLine; decide, fun t1 nt1 => ⟨_, rfl, row_cat upd_same (td.im (same_im (r6.trans (same_new nt1)))) (ld d (List.mem_of_getElem? hd)) fun H7 r7 s7 rv => q _ _ ((same_new nt1).trans s7) ?_⟩⟩
        rw [getD_of hd]; exact rv
      intro H6 ys r6 e6 p6
      rw [hxl, range_map_get ([] : List Int) ds] at p6
      have hyl := p6.length
      have el6 := r6 _ _ el0
      refine ⟨l0, D, _, _, rfl, rfl, el6, e6, size_ok (by show 1 + ys.length ≤ 100000; omega), fun q nq => ?_⟩
      have sq := same_new (o := .lst ([R0] ++ ys)) nq
      refine ⟨q, R0 :: ys, recRows ws ds, rfl, upd_same, .cons (rv0.im ((same_im r6).trans (same_im sq))) ((rows_pair p6).mono fun _ _ h => h.im (same_im sq)), wro, by show (ds.map _).length + 1 ≤ 1000; rw [List.length_map]; omega, fun H7 s7 => ?_⟩
      have s17 : Same H5 H7 := ((sa.trans r6).trans sq).trans s7
      clear sq el6 hyl p6 e6 r6 hxl pza eza el0 rv0 sa nt0 nl0 nD nq s7
      have h7 := h5.same s17
      have wat7 := wat.same s17
      refine ⟨_, rfl, .ref x, ws, ds, rfl, wat7, fw, by omega, fd, ld, by omega, fun H8 s8 => ⟨_, rfl, _, rfl, fun H9 s9 => ⟨true, rfl, iteF ?_⟩⟩⟩
      refine ⟨_, rfl, ws, ds, rfl, rok, by omega, fun H10 v s10 wa => ?_⟩
      obtain ⟨p, dy, wu, du, pu, rfl, ep, tu, uu⟩ := id wa
      have wat10 := ((wat7.same s8).same s9).same s10
      obtain ⟨_, dz, wz, dz', pz, e0, ez, tz, uz⟩ := id wat10
      cases e0
      refine ⟨_, rfl, p, x, dy, dz, _, _, rfl, rfl, ep, ez, ⟨ws, ds, wa, wat10⟩, fun H11 s11 => ⟨_, rfl, iteF ?_⟩⟩
      refine ⟨_, rfl, ws, ds, rfl, rok, by omega, fun H12 v2 s12 wa2 => ⟨v2, ws, ds, rfl, wa2, fw, by omega, fd, ld, by omega, fun H13 s13 => ⟨_, rfl, rfl, _, rfl, iteN (by rw [decide_eq_true rfl]; rfl) ?_⟩⟩⟩
      have h13 := ((((((h7.same s8).same s9).same s10).same s11).same s12).same s13)
      clear s8 s9 s10 s11 s12 s13 wa2 wat10 wa ep tu ez tz uu uz wat7 wat h7 s17 px5 ear5 tw5 h5 s5 e5 wro fw fd ld rfew px ear tw td rok w7 h2 er
      refine ⟨_, rfl, a, c, cs, rfl, h13, fun H2 r lv pv' ls ps r2 h2 er tl tp hok l8 p7 => ?_⟩
      clear r2 h13
      obtain ⟨ar, xs, rfl, ear, px⟩ := id tl
      refine ⟨r, _, rfl, SqT.of er, rfl, .ref ar, [pv'], rfl, pv', [], rfl, rfl, ?_⟩
      obtain ⟨fp, fl, l2⟩ := hok.figs (by omega)
      have l2' : ∀ l ∈ ls, l.length ≤ 1000 := fun l hl => by rw [l2 l hl]; decide
      have wro := rows_ok (w0 := Str.ofString "places") (w1 := Str.ofString "link") (a := ps) (ls := ls) w_places w_link fp (by omega) fl l2'
      refine ⟨_, rfl, _, rfl, ?_⟩
      intro x dx nx ndx nex
      have s4 : Same H2 (L2.upd (L2.upd H2 dx (.own x)) x (.ins (He.ga K "Hall") dx [])) := same_mut (same_new ndx) nx
      refine ⟨x, dx, .ref ar, pv', ls, ps, rfl, upd_same, tl.im (same_im s4), tp.im (same_im s4), hok, fun H5 k5 e5 => ⟨rfl, ?_⟩⟩
      have s5 : Same H2 H5 := fun b0 o e => k5 b0 o (ne_of_none e nx) (s4 b0 o e)
      have wat : HallAt (He.ga K "Hall") H5 (.ref x) ls ps := ⟨x, dx, .ref ar, pv', rfl, e5, tl.im (same_im s5), tp.im (same_im s5)⟩
      have h5 := h2.same s5
      have ear5 := s5 _ _ ear
      have px5 := pti_im px (same_im s5)
      have tw5 := tp.im (same_im s5)
      clear k5 s4 nx ndx nex
      refine ⟨by show 1 ≤ sizeLine; decide, fun t0 nt0 => ⟨_, rfl, ?_⟩⟩
      refine row_cat upd_same (tw5.im (im_new nt0)) (by omega) fun Hy R0 sy rv => ⟨by show 1 ≤ sizeLine; decide, fun l0 nl0 => ?_⟩
      have sa : Same H5 (L2.upd Hy l0 (.lst [R0])) := ((same_new nt0).trans sy).trans (same_new nl0)
      have rv0 : RowV (L2.upd Hy l0 (.lst [R0])) R0 ("places", ps) := rv.im (im_new nl0)
      have el0 : (L2.upd Hy l0 (.lst [R0])) l0 = some (.lst [R0]) := upd_same
      generalize (L2.upd Hy l0 (.lst [R0])) = Hz at *
      have eza := sa _ _ ear5
      have pza := pti_im px5 (same_im sa)
      have hxl : xs.length = ls.length := px5.length
      refine ⟨_, rfl, ar, rfl, ⟨_, SqT.of eza⟩, fun D nD => ?_⟩
      refine lc_map walk_tup (fun y (d : List Int) H => RowV H y ("link", d)) (fun i => ls.getD i []) nD (fun _ _ _ _ k h => h.im k) (fun H' r => SqT.of (r _ _ eza)) (by omega) ?_ ?_
      · rintro i x H6 _ hi r6 ⟨rfl, ex⟩ Qt q
        obtain ⟨d, hd, td⟩ := paired_get pza ex
        refine ⟨rfl, by show 1 ≤ sizeLine; decide, fun t1 nt1 => ⟨_, rfl, row_cat upd_same (td.im (same_im (r6.trans (same_new nt1)))) (l2' d (List.mem_of_getElem? hd)) fun H7 r7 s7 rv => q _ _ ((same_new nt1).trans s7) ?_⟩⟩
        rw [getD_of hd]; exact rv
      intro H6 ys r6 e6 p6
      rw [hxl, range_map_get ([] : List Int) ls] at p6
      have hyl := p6.length
      have el6 := r6 _ _ el0
      refine ⟨l0, D, _, _, rfl, rfl, el6, e6, size_ok (by show 1 + ys.length ≤ 100000; omega), fun q nq => ?_⟩
      have sq := same_new (o := .lst ([R0] ++ ys)) nq
      refine ⟨q, R0 :: ys, hallRows ls ps, rfl, upd_same, .cons (rv0.im ((same_im r6).trans (same_im sq))) ((rows_pair p6).mono fun _ _ h => h.im (same_im sq)), wro, by show (ls.map _).length + 1 ≤ 1000; rw [List.length_map]; omega, fun H7 s7 => ?_⟩
      have s17 : Same H5 H7 := ((sa.trans r6).trans sq).trans s7
      clear sq el6 hyl p6 e6 r6 hxl pza eza el0 rv0 sa nt0 nl0 nD nq s7
      have h7 := h5.same s17
      have wat7 := wat.same s17
      refine ⟨_, rfl, .ref x, ls, ps, rfl, wat7, fp, by omega, fl, l2', by omega, fun H8 s8 => ⟨_, rfl, _, rfl, fun H9 s9 => ⟨true, rfl, iteF ?_⟩⟩⟩
      refine ⟨_, rfl, ls, ps, rfl, hok, by omega, fun H10 v s10 wa => ?_⟩
      obtain ⟨p, dy, wu, du, rfl, ep, tu, uu⟩ := id wa
      have wat10 := ((wat7.same s8).same s9).same s10
      obtain ⟨_, dz, wz, dz', e0, ez, tz, uz⟩ := id wat10
      cases e0
      refine ⟨_, rfl, p, x, dy, dz, _, _, rfl, rfl, ep, ez, ⟨ls, ps, wa, wat10⟩, fun H11 s11 => ⟨_, rfl, iteF ?_⟩⟩
      refine ⟨_, rfl, ls, ps, rfl, hok, by omega, fun H12 v2 s12 wa2 => ⟨v2, ls, ps, rfl, wa2, fp, by omega, fl, l2', by omega, fun H13 s13 => ⟨_, rfl, rfl, _, rfl, iteN (by rw [decide_eq_true rfl]; rfl) ?_⟩⟩⟩
      exact ⟨_, _, _, _, _, _, _, _, _, _, _, rfl, ((((((h7.same s8).same s9).same s10).same s11).same s12).same s13)⟩
    · rintro _ H2 ⟨y2, y3, y4, y5, y6, y7, y8, y9, y10, y11, y12, rfl, hh⟩
      exact k _
end
end GA
/-! GaHead: what the top leaves, by facts. (Printed by gen_head.py.) -/
namespace GA
open PySem PySem.Spec PyProof.Rows L2
/-! ### facts of a class with an own __eq__ -/
def strKeyB (e : DictEntry) : Bool := match e.key with
  | .str _ _ => true
  | _ => false
def findL (es : List DictEntry) (x : Str) : Option Value := match es.find? fun e => e.key.isStr x with
  | some e => some e.val
  | none => none
theorem findL_eq (es : Array DictEntry) (x : Str) : nsFind es x = findL es.toList x := by
  show (es.find? fun e => e.key.isStr x).map (·.val) = findL es.toList x
  rw [← Array.find?_toList]
  unfold findL
  cases es.toList.find? fun e => e.key.isStr x <;> rfl
def isRefB (o : Option Value) (f : Addr) : Bool := match o with
  | some (.ref a) => decide (a = f)
  | _ => false
def nsB (K : PySem.W.Frag) (N f : Addr) : Bool := match K.lookup N with
  | some ⟨_, _, .dict es _, _⟩ => es.toList.all strKeyB && (isRefB (findL es.toList "__eq__") f && (findL es.toList "__ne__").isNone)
  | _ => false
def fnB (K : PySem.W.Frag) (f : Addr) : Bool := match K.lookup f with
  | some ⟨.type c, _, _, _⟩ => decide (c = "function")
  | _ => false
def neB (K : PySem.W.Frag) (C f : Addr) : Bool := match K.lookup C with
  | some ⟨.type c, _, .cls cd, sl⟩ => (match cd.mro, sl.toList with
    | [.ref C', .type o], [_, _, _, _, some (.builtin _), _] => decide (c = "type") && (decide (C' = C) && (decide (o = "object") && (!cd.hasDel && (nsB K cd.ns f && fnB K f))))
    | _, _ => false)
  | _ => false
theorem neB_ok {K : PySem.W.Frag} {C f : Addr} (h : neB K C f = true) : NeC K C f := by
  unfold neB at h
  split at h
  · rename_i c dd cd sl hC
    split at h
    · rename_i C' o k0 k1 k2 k3 nid k5 hm hs
      obtain ⟨h1, h⟩ := He.ba h
      obtain ⟨h2, h⟩ := He.ba h
      obtain ⟨h3, h⟩ := He.ba h
      obtain ⟨h4, h⟩ := He.ba h
      obtain ⟨h5, h6⟩ := He.ba h
      have e1 := of_decide_eq_true h1
      have e2 := of_decide_eq_true h2
      have e3 := of_decide_eq_true h3
      subst e1 e2 e3
      obtain ⟨nm, bs, mro, ns, qn, hd, sn, sub, ab, col, del⟩ := cd
      dsimp only at hm h4 h5
      subst hm
      have e4 : del = false := by cases del <;> first | rfl | cases h4
      subst e4
      have hsl : sl = #[k0, k1, k2, k3, some (.builtin nid), k5] := by
        obtain ⟨l⟩ := sl
        simp only at hs
        rw [hs]
      subst hsl
      unfold nsB at h5
      split at h5
      · rename_i oc od es ep osl hN
        obtain ⟨a1, a2⟩ := He.ba h5
        obtain ⟨a3, a4⟩ := He.ba a2
        unfold fnB at h6
        split at h6
        · rename_i fc fd' dt fsl hF
          have ef := of_decide_eq_true h6
          subst ef
          refine ⟨nm, qn, ns, bs, hd, sn, sub, ab, col, dd, k0, k1, k2, k3, k5, nid, _, _, es, ep, hC, hN, rfl, fun e he => ?_, ?_, ?_, hF, rfl⟩
          · have := List.all_eq_true.mp a1 e (Array.mem_toList_iff.mpr he)
            unfold strKeyB at this
            split at this
            · rename_i x t q
              exact ⟨x, t, q⟩
            · cases this
          · rw [findL_eq]
            unfold isRefB at a3
            split at a3
            · rename_i b q
              rw [q, of_decide_eq_true a3]
            · cases a3
          · rw [findL_eq]
            exact Option.isNone_iff_eq_none.mp a4
        · cases h6
      · cases h5
    · cases h
  · cases h
def insB (K : PySem.W.Frag) (x : Str) : Bool := (He.Fa.cls x).ok K && (He.eqO (PySem.W.findIn K (.ref (He.ga K x)) "__class__") (some (some (.builtin "object.__class__"))) && (He.eqO (PySem.W.specialIn K (.builtin "object.__class__") "__get__") (some (some (.builtin "getset_descriptor.__get__"))) &&
  (decide (PySem.W.takesIn K (.builtin "object.__class__") = some true) && (decide (PySem.W.mroIn K (He.ga K x) (.type "object") = some true) && decide (PySem.W.kitOne K (.ref (He.ga K x)) (.ref (He.ga K x)) = some true)))))
theorem insB_ok {K : PySem.W.Frag} {x : Str} (h : insB K x = true) : C8.InsC K (He.ga K x) := by
  obtain ⟨h1, h⟩ := He.ba h
  obtain ⟨h2, h⟩ := He.ba h
  obtain ⟨h3, h⟩ := He.ba h
  obtain ⟨h4, h⟩ := He.ba h
  obtain ⟨h5, h6⟩ := He.ba h
  exact ⟨He.cls_ok h1, He.eqO_ok h2, He.eqO_ok h3, of_decide_eq_true h4, of_decide_eq_true h5, of_decide_eq_true h6⟩
def exB (K : PySem.W.Frag) : List Str → Bool
  | [] => true
  | x :: r => insB K x && (neB K (He.ga K x) (He.ma K (He.ga K x) "__eq__") && exB K r)
theorem exB_at {K : PySem.W.Frag} : ∀ {l : List Str} {x : Str}, exB K l = true → x ∈ l → insB K x = true ∧ neB K (He.ga K x) (He.ma K (He.ga K x) "__eq__") = true
  | y :: r, x, h, hx => by
    obtain ⟨h1, h⟩ := He.ba (show (insB K y && (neB K (He.ga K y) (He.ma K (He.ga K y) "__eq__") && exB K r)) = true from h)
    obtain ⟨h2, h3⟩ := He.ba h
    rcases List.mem_cons.mp hx with e | hx
    · rw [e]; exact ⟨h1, h2⟩
    · exact exB_at h3 hx
/-! ### the Hook: the kit's, with these -/
def obsX (fa : List He.Fa) (fn : List He.DefD) (ow : List Str) (K : PySem.W.Frag) : He.AlD := ((He.obsD fa fn K).1 && exB K ow, (He.obsD fa fn K).2)
def SaysX (fa : List He.Fa) (fn : List He.DefD) (ow : List Str) (K : PySem.W.Frag) : Prop := obsX fa fn ow K = He.valD fn
def obsXG (n : Nat) (fa : List He.Fa) (fn : List He.DefD) (ow : List Str) (g : Addr → Option Obj) : He.AlD := obsX fa fn ow (He.frG g (He.asD g n))
def hookX (n : Nat) (fa : List He.Fa) (fn : List He.DefD) (ow : List Str) : PySem.W.Hook where
  α := He.AlD
  obs := fun s => obsXG n fa fn ow s.heap.get?
  val := fun _ => He.valD fn
  says := fun _ h => ∃ K : PySem.W.Frag, K.In h ∧ SaysX fa fn ow K
  of := fun _ _ e => ⟨_, He.frG_in, e⟩
  keeps := fun _ _ _ ⟨K, hK, c⟩ k => ⟨K, PySem.W.Frag.In.keeps hK k, c⟩
theorem obsXG_eq {n : Nat} {fa : List He.Fa} {fn : List He.DefD} {ow : List Str} {g : Addr → Option Obj} {s : Shared} (h : ∀ a, g a = s.heap.get? a) : obsXG n fa fn ow g = (hookX n fa fn ow).obs s := by
  have e : g = s.heap.get? := funext h
  rw [e] <;> rfl
theorem SaysX.both {fa : List He.Fa} {fn : List He.DefD} {ow : List Str} {K : PySem.W.Frag} (c : SaysX fa fn ow K) : He.SaysD fa fn K ∧ exB K ow = true := by
  have h1 : ((He.obsD fa fn K).1 && exB K ow) = true := congrArg (fun z : He.AlD => z.1) c
  have h2 : (He.obsD fa fn K).2 = fn.map He.DefD.val := congrArg (fun z : He.AlD => z.2) c
  obtain ⟨h3, h4⟩ := He.ba h1
  exact ⟨Prod.ext h3 h2, h4⟩
theorem fd_at {K : PySem.W.Frag} {d : He.DefD} (h : ∃ fd, FunD K d.name d.qual d.params d.body d.scope (d.dvs K) (d.kws K) (He.fAd K d.at_) fd) : FunD K d.name d.qual d.params d.body d.scope (d.dvs K) (d.kws K) (He.fAd K d.at_) (fdOf K d.at_) := by
  obtain ⟨fd, F⟩ := h
  have e : fdOf K d.at_ = fd := by
    obtain ⟨oc, od, dV, kV, doc, pm, an, cdv, ct, osl, e1, lk, _⟩ := F.ex
    unfold fdOf
    rw [lk]
  rw [e]; exact F
/-! ### the facts -/
def d0 : He.DefD := ⟨("is_integer", none), "is_integer", "is_integer", defArgs s_is_integer, defBody s_is_integer, defScope s_is_integer, [], []⟩
def d1 : He.DefD := ⟨("is_within", none), "is_within", "is_within", defArgs s_is_within, defBody s_is_within, defScope s_is_within, [], []⟩
def d2 : He.DefD := ⟨("is_pair", none), "is_pair", "is_pair", defArgs s_is_pair, defBody s_is_pair, defScope s_is_pair, [], []⟩
def d3 : He.DefD := ⟨("is_sized", none), "is_sized", "is_sized", defArgs s_is_sized, defBody s_is_sized, defScope s_is_sized, [], []⟩
def d4 : He.DefD := ⟨("are_unlike", none), "are_unlike", "are_unlike", defArgs s_are_unlike, defBody s_are_unlike, defScope s_are_unlike, [], []⟩
def d5 : He.DefD := ⟨("is_wire_pair", none), "is_wire_pair", "is_wire_pair", defArgs s_is_wire_pair, defBody s_is_wire_pair, defScope s_is_wire_pair, [], []⟩
def d6 : He.DefD := ⟨("raw_web", none), "raw_web", "raw_web", defArgs s_raw_web, defBody s_raw_web, defScope s_raw_web, [], []⟩
def d7 : He.DefD := ⟨("outs", none), "outs", "outs", defArgs s_outs, defBody s_outs, defScope s_outs, [], []⟩
def d8 : He.DefD := ⟨("reach_of", none), "reach_of", "reach_of", defArgs s_reach_of, defBody s_reach_of, defScope s_reach_of, [], []⟩
def d9 : He.DefD := ⟨("doubled", none), "doubled", "doubled", defArgs s_doubled, defBody s_doubled, defScope s_doubled, [], []⟩
def d10 : He.DefD := ⟨("is_link", none), "is_link", "is_link", defArgs s_is_link, defBody s_is_link, defScope s_is_link, [], []⟩
def d11 : He.DefD := ⟨("are_links", none), "are_links", "are_links", defArgs s_are_links, defBody s_are_links, defScope s_are_links, [], []⟩
def d12 : He.DefD := ⟨("web_of", none), "web_of", "web_of", defArgs s_web_of, defBody s_web_of, defScope s_web_of, [], []⟩
def d13 : He.DefD := ⟨("closed", none), "closed", "closed", defArgs s_closed, defBody s_closed, defScope s_closed, [], []⟩
def d14 : He.DefD := ⟨("told", none), "told", "told", defArgs s_told, defBody s_told, defScope s_told, [], []⟩
def d15 : He.DefD := ⟨("web_text", none), "web_text", "web_text", defArgs s_web_text, defBody s_web_text, defScope s_web_text, [], []⟩
def d16 : He.DefD := ⟨("record_text", none), "record_text", "record_text", defArgs s_record_text, defBody s_record_text, defScope s_record_text, [], []⟩
def d17 : He.DefD := ⟨("hall_text", none), "hall_text", "hall_text", defArgs s_hall_text, defBody s_hall_text, defScope s_hall_text, [], []⟩
def d18 : He.DefD := ⟨("number_in", none), "number_in", "number_in", defArgs s_number_in, defBody s_number_in, defScope s_number_in, [], []⟩
def d19 : He.DefD := ⟨("numbers_in", none), "numbers_in", "numbers_in", defArgs s_numbers_in, defBody s_numbers_in, defScope s_numbers_in, [], []⟩
def d20 : He.DefD := ⟨("lines_of", none), "lines_of", "lines_of", defArgs s_lines_of, defBody s_lines_of, defScope s_lines_of, [], []⟩
def d21 : He.DefD := ⟨("check_end", none), "check_end", "check_end", defArgs s_check_end, defBody s_check_end, defScope s_check_end, [], []⟩
def d22 : He.DefD := ⟨("parts_in", none), "parts_in", "parts_in", defArgs s_parts_in, defBody s_parts_in, defScope s_parts_in, [], []⟩
def d23 : He.DefD := ⟨("read_web", none), "read_web", "read_web", defArgs s_read_web, defBody s_read_web, defScope s_read_web, [], []⟩
def d24 : He.DefD := ⟨("read_record", none), "read_record", "read_record", defArgs s_read_record, defBody s_read_record, defScope s_read_record, [], []⟩
def d25 : He.DefD := ⟨("read_hall", none), "read_hall", "read_hall", defArgs s_read_hall, defBody s_read_hall, defScope s_read_hall, [], []⟩
def d26 : He.DefD := ⟨("_law_hand", none), "_law_hand", "_law_hand", defArgs s_law_hand, defBody s_law_hand, defScope s_law_hand, [], []⟩
def d27 : He.DefD := ⟨("_law_draw", none), "_law_draw", "_law_draw", defArgs s_law_draw, defBody s_law_draw, defScope s_law_draw, [], []⟩
def d28 : He.DefD := ⟨("_law_wires", none), "_law_wires", "_law_wires", defArgs s_law_wires, defBody s_law_wires, defScope s_law_wires, [], []⟩
def d29 : He.DefD := ⟨("_law_web", none), "_law_web", "_law_web", defArgs s_law_web, defBody s_law_web, defScope s_law_web, [], []⟩
def d30 : He.DefD := ⟨("_law_lines", none), "_law_lines", "_law_lines", defArgs s_law_lines, defBody s_law_lines, defScope s_law_lines, [], []⟩
def d31 : He.DefD := ⟨("_law_is", none), "_law_is", "_law_is", defArgs s_law_is, defBody s_law_is, defScope s_law_is, [], []⟩
def d32 : He.DefD := ⟨("_law_shuffled", none), "_law_shuffled", "_law_shuffled", defArgs s_law_shuffled, defBody s_law_shuffled, defScope s_law_shuffled, [], []⟩
def d33 : He.DefD := ⟨("_law_some_record", none), "_law_some_record", "_law_some_record", defArgs s_law_some_record, defBody s_law_some_record, defScope s_law_some_record, [], []⟩
def d34 : He.DefD := ⟨("_law_hall", none), "_law_hall", "_law_hall", defArgs s_law_hall, defBody s_law_hall, defScope s_law_hall, [], []⟩
def d35 : He.DefD := ⟨("law", none), "law", "law", defArgs s_law, defBody s_law, defScope s_law, [], []⟩
def d36 : He.DefD := ⟨("Web", some "__init__"), "__init__", "Web.__init__", defArgs s_Web_init, defBody s_Web_init, defScope s_Web_init, [], []⟩
def d37 : He.DefD := ⟨("Web", some "keep"), "keep", "Web.keep", defArgs s_Web_keep, defBody s_Web_keep, defScope s_Web_keep, [], []⟩
def d38 : He.DefD := ⟨("Web", some "__eq__"), "__eq__", "Web.__eq__", defArgs s_Web_eq, defBody s_Web_eq, defScope s_Web_eq, [], []⟩
def d39 : He.DefD := ⟨("RawWeb", some "__init__"), "__init__", "RawWeb.__init__", defArgs s_RawWeb_init, defBody s_RawWeb_init, defScope s_RawWeb_init, [], []⟩
def d40 : He.DefD := ⟨("RawWeb", some "keep"), "keep", "Web.keep", defArgs s_RawWeb_keep, defBody s_RawWeb_keep, defScope s_RawWeb_keep, [], []⟩
def d41 : He.DefD := ⟨("Record", some "__init__"), "__init__", "Record.__init__", defArgs s_Record_init, defBody s_Record_init, defScope s_Record_init, [], []⟩
def d42 : He.DefD := ⟨("Record", some "keep"), "keep", "Record.keep", defArgs s_Record_keep, defBody s_Record_keep, defScope s_Record_keep, [], []⟩
def d43 : He.DefD := ⟨("Record", some "__eq__"), "__eq__", "Record.__eq__", defArgs s_Record_eq, defBody s_Record_eq, defScope s_Record_eq, [], []⟩
def d44 : He.DefD := ⟨("Hall", some "__init__"), "__init__", "Hall.__init__", defArgs s_Hall_init, defBody s_Hall_init, defScope s_Hall_init, [], []⟩
def d45 : He.DefD := ⟨("Hall", some "__eq__"), "__eq__", "Hall.__eq__", defArgs s_Hall_eq, defBody s_Hall_eq, defScope s_Hall_eq, [], []⟩
def fn : List He.DefD := [d0, d1, d2, d3, d4, d5, d6, d7, d8, d9, d10, d11, d12, d13, d14, d15, d16, d17, d18, d19, d20, d21, d22, d23, d24, d25, d26, d27, d28, d29, d30, d31, d32, d33, d34, d35, d36, d37, d38, d39, d40, d41, d42, d43, d44, d45]
def fa0 : List He.Fa := [.free "isinstance", .free "int", .free "bool", .free "tuple", .free "len", .free "all", .free "set", .free "enumerate", .free "sorted", .free "list", .free "dict", .free "range", .free "str", .free "abs", .free "min", .free "max", .free "zip", .int "MOST_MACHINES_webs" 7, .int "MOST_MACHINES_records" 7, .int "MOST_PUTS" 30]
def fa1 : List He.Fa := [.int "MOST_MACHINES_halls" 7, .int "MOST_LINKS" 11, .int "MOST_FIGURES" 9, .str "DIGITS" "0123456789", .glo "is_integer", .glo "is_within", .glo "is_pair", .glo "is_sized", .glo "are_unlike", .glo "is_wire_pair", .glo "raw_web", .glo "outs", .glo "reach_of", .glo "doubled", .glo "is_link", .glo "are_links", .glo "web_of", .glo "closed", .glo "told", .glo "web_text"]
def fa2 : List He.Fa := [.glo "record_text", .glo "hall_text", .glo "number_in", .glo "numbers_in", .glo "lines_of", .glo "check_end", .glo "parts_in", .glo "read_web", .glo "read_record", .glo "read_hall", .glo "_law_hand", .glo "_law_draw", .glo "_law_wires", .glo "_law_web", .glo "_law_lines", .glo "_law_is", .glo "_law_shuffled", .glo "_law_some_record", .glo "_law_hall", .glo "law"]
def fa3 : List He.Fa := [.meth "Web" "__init__", .meth "Web" "keep", .meth "Web" "__eq__", .meth "RawWeb" "__init__", .meth "RawWeb" "keep", .meth "Record" "__init__", .meth "Record" "keep", .meth "Record" "__eq__", .meth "Hall" "__init__", .meth "Hall" "__eq__", .noat "Web" "machines", .noat "Web" "wires", .glo "Web", .cls "Web", .mkr "Web", .noat "RawWeb" "machines", .noat "RawWeb" "wires", .glo "RawWeb", .cls "RawWeb", .mkr "RawWeb"]
def fa4 : List He.Fa := [.noat "Record" "writers", .noat "Record" "diaries", .noat "Record" "places", .glo "Record", .cls "Record", .mkr "Record", .noat "Hall" "links", .noat "Hall" "places", .glo "Hall", .cls "Hall", .mkr "Hall"]
def fa : List He.Fa := fa0 ++ fa1 ++ fa2 ++ fa3 ++ fa4
def ow : List Str := ["Web", "Record", "Hall"]
abbrev R : PySem.W.OpenRow := PySem.W.OpenLaw.row PySem.Challenge.rw_growalong_k48_whole_texts_there_and_back
abbrev hk : PySem.W.Hook := hookX 6 fa fn ow
def ob (s : PySem.W.SharedT) : He.AlD := obsXG 6 fa fn ow (HandSHeadRun.getT s)
theorem ob_eq (s : PySem.W.SharedT) : ob s = hk.obs s.abs := obsXG_eq (HandSHeadRun.getT_eq s)
def n1 : List PySem.Str := ["__name__", "GrowError", "BadWeb", "BadRecord", "BadHall", "BadText", "is_integer", "is_within", "is_pair", "is_sized", "are_unlike", "MOST_MACHINES_webs", "is_wire_pair", "Web", "RawWeb", "raw_web", "outs", "reach_of", "doubled", "MOST_MACHINES_records", "MOST_PUTS", "Record", "MOST_MACHINES_halls", "MOST_LINKS"]
def n2 : List PySem.Str := ["is_link", "are_links", "web_of", "Hall", "DIGITS", "MOST_FIGURES", "closed", "told", "web_text", "record_text", "hall_text", "number_in", "numbers_in", "lines_of", "check_end", "parts_in", "read_web", "read_record", "read_hall", "_law_hand", "_law_draw", "_law_wires", "_law_web", "_law_lines", "_law_is", "_law_shuffled", "_law_some_record", "_law_hall"]
abbrev names : List PySem.Str := n1 ++ n2
theorem facts {K : PySem.W.Frag} {h : Heap} {mg : Str → Option Value} (X : K.In h) (G : h.Ns mainGlobals mg) (c0 : SaysX fa fn ow K) : Txt K mg := by
  have c := c0.both
  have F0 := fd_at (c.1.def_ 0 (d := d0) rfl)
  have F1 := fd_at (c.1.def_ 1 (d := d1) rfl)
  have F2 := fd_at (c.1.def_ 2 (d := d2) rfl)
  have F3 := fd_at (c.1.def_ 3 (d := d3) rfl)
  have F4 := fd_at (c.1.def_ 4 (d := d4) rfl)
  have F5 := fd_at (c.1.def_ 5 (d := d5) rfl)
  have F6 := fd_at (c.1.def_ 6 (d := d6) rfl)
  have F7 := fd_at (c.1.def_ 7 (d := d7) rfl)
  have F8 := fd_at (c.1.def_ 8 (d := d8) rfl)
  have F9 := fd_at (c.1.def_ 9 (d := d9) rfl)
  have F10 := fd_at (c.1.def_ 10 (d := d10) rfl)
  have F11 := fd_at (c.1.def_ 11 (d := d11) rfl)
  have F12 := fd_at (c.1.def_ 12 (d := d12) rfl)
  have F13 := fd_at (c.1.def_ 13 (d := d13) rfl)
  have F14 := fd_at (c.1.def_ 14 (d := d14) rfl)
  have F15 := fd_at (c.1.def_ 15 (d := d15) rfl)
  have F16 := fd_at (c.1.def_ 16 (d := d16) rfl)
  have F17 := fd_at (c.1.def_ 17 (d := d17) rfl)
  have F18 := fd_at (c.1.def_ 18 (d := d18) rfl)
  have F19 := fd_at (c.1.def_ 19 (d := d19) rfl)
  have F20 := fd_at (c.1.def_ 20 (d := d20) rfl)
  have F21 := fd_at (c.1.def_ 21 (d := d21) rfl)
  have F22 := fd_at (c.1.def_ 22 (d := d22) rfl)
  have F23 := fd_at (c.1.def_ 23 (d := d23) rfl)
  have F24 := fd_at (c.1.def_ 24 (d := d24) rfl)
  have F25 := fd_at (c.1.def_ 25 (d := d25) rfl)
  have F26 := fd_at (c.1.def_ 26 (d := d26) rfl)
  have F27 := fd_at (c.1.def_ 27 (d := d27) rfl)
  have F28 := fd_at (c.1.def_ 28 (d := d28) rfl)
  have F29 := fd_at (c.1.def_ 29 (d := d29) rfl)
  have F30 := fd_at (c.1.def_ 30 (d := d30) rfl)
  have F31 := fd_at (c.1.def_ 31 (d := d31) rfl)
  have F32 := fd_at (c.1.def_ 32 (d := d32) rfl)
  have F33 := fd_at (c.1.def_ 33 (d := d33) rfl)
  have F34 := fd_at (c.1.def_ 34 (d := d34) rfl)
  have F35 := fd_at (c.1.def_ 35 (d := d35) rfl)
  have F36 := fd_at (c.1.def_ 36 (d := d36) rfl)
  have F37 := fd_at (c.1.def_ 37 (d := d37) rfl)
  have F38 := fd_at (c.1.def_ 38 (d := d38) rfl)
  have F39 := fd_at (c.1.def_ 39 (d := d39) rfl)
  have F40 := fd_at (c.1.def_ 40 (d := d40) rfl)
  have F41 := fd_at (c.1.def_ 41 (d := d41) rfl)
  have F42 := fd_at (c.1.def_ 42 (d := d42) rfl)
  have F43 := fd_at (c.1.def_ 43 (d := d43) rfl)
  have F44 := fd_at (c.1.def_ 44 (d := d44) rfl)
  have F45 := fd_at (c.1.def_ 45 (d := d45) rfl)
  exact {
  m_isinstance := He.free_ok X G (c.1.fact 0 (f := .free "isinstance") rfl)
  m_int := He.free_ok X G (c.1.fact 1 (f := .free "int") rfl)
  m_bool := He.free_ok X G (c.1.fact 2 (f := .free "bool") rfl)
  m_tuple := He.free_ok X G (c.1.fact 3 (f := .free "tuple") rfl)
  m_len := He.free_ok X G (c.1.fact 4 (f := .free "len") rfl)
  m_all := He.free_ok X G (c.1.fact 5 (f := .free "all") rfl)
  m_set := He.free_ok X G (c.1.fact 6 (f := .free "set") rfl)
  m_enumerate := He.free_ok X G (c.1.fact 7 (f := .free "enumerate") rfl)
  m_sorted := He.free_ok X G (c.1.fact 8 (f := .free "sorted") rfl)
  m_list := He.free_ok X G (c.1.fact 9 (f := .free "list") rfl)
  m_dict := He.free_ok X G (c.1.fact 10 (f := .free "dict") rfl)
  m_range := He.free_ok X G (c.1.fact 11 (f := .free "range") rfl)
  m_str := He.free_ok X G (c.1.fact 12 (f := .free "str") rfl)
  m_abs := He.free_ok X G (c.1.fact 13 (f := .free "abs") rfl)
  m_min := He.free_ok X G (c.1.fact 14 (f := .free "min") rfl)
  m_max := He.free_ok X G (c.1.fact 15 (f := .free "max") rfl)
  m_zip := He.free_ok X G (c.1.fact 16 (f := .free "zip") rfl)
  c_MOST_MACHINES_webs := He.int_ok X G (c.1.fact 17 (f := .int "MOST_MACHINES_webs" 7) rfl)
  c_MOST_MACHINES_records := He.int_ok X G (c.1.fact 18 (f := .int "MOST_MACHINES_records" 7) rfl)
  c_MOST_PUTS := He.int_ok X G (c.1.fact 19 (f := .int "MOST_PUTS" 30) rfl)
  c_MOST_MACHINES_halls := He.int_ok X G (c.1.fact 20 (f := .int "MOST_MACHINES_halls" 7) rfl)
  c_MOST_LINKS := He.int_ok X G (c.1.fact 21 (f := .int "MOST_LINKS" 11) rfl)
  c_MOST_FIGURES := He.int_ok X G (c.1.fact 22 (f := .int "MOST_FIGURES" 9) rfl)
  c_DIGITS := He.str_ok X G (c.1.fact 23 (f := .str "DIGITS" "0123456789") rfl)
  d_is_integer := ⟨F0, He.glo_ok X G (c.1.fact 24 (f := .glo "is_integer") rfl), F0.bindsN fun _ _ _ _ _ _ us hl => match us, hl with | [_], _ => rfl⟩
  d_is_within := ⟨F1, He.glo_ok X G (c.1.fact 25 (f := .glo "is_within") rfl), F1.bindsN fun _ _ _ _ _ _ us hl => match us, hl with | [_, _, _], _ => rfl⟩
  d_is_pair := ⟨F2, He.glo_ok X G (c.1.fact 26 (f := .glo "is_pair") rfl), F2.bindsN fun _ _ _ _ _ _ us hl => match us, hl with | [_], _ => rfl⟩
  d_is_sized := ⟨F3, He.glo_ok X G (c.1.fact 27 (f := .glo "is_sized") rfl), F3.bindsN fun _ _ _ _ _ _ us hl => match us, hl with | [_, _, _], _ => rfl⟩
  d_are_unlike := ⟨F4, He.glo_ok X G (c.1.fact 28 (f := .glo "are_unlike") rfl), F4.bindsN fun _ _ _ _ _ _ us hl => match us, hl with | [_, _], _ => rfl⟩
  d_is_wire_pair := ⟨F5, He.glo_ok X G (c.1.fact 29 (f := .glo "is_wire_pair") rfl), F5.bindsN fun _ _ _ _ _ _ us hl => match us, hl with | [_, _], _ => rfl⟩
  d_raw_web := ⟨F6, He.glo_ok X G (c.1.fact 30 (f := .glo "raw_web") rfl), F6.bindsN fun _ _ _ _ _ _ us hl => match us, hl with | [_, _], _ => rfl⟩
  d_outs := ⟨F7, He.glo_ok X G (c.1.fact 31 (f := .glo "outs") rfl), F7.bindsN fun _ _ _ _ _ _ us hl => match us, hl with | [_, _], _ => rfl⟩
  d_reach_of := ⟨F8, He.glo_ok X G (c.1.fact 32 (f := .glo "reach_of") rfl), F8.bindsN fun _ _ _ _ _ _ us hl => match us, hl with | [_, _], _ => rfl⟩
  d_doubled := ⟨F9, He.glo_ok X G (c.1.fact 33 (f := .glo "doubled") rfl), F9.bindsN fun _ _ _ _ _ _ us hl => match us, hl with | [_], _ => rfl⟩
  d_is_link := ⟨F10, He.glo_ok X G (c.1.fact 34 (f := .glo "is_link") rfl), F10.bindsN fun _ _ _ _ _ _ us hl => match us, hl with | [_, _], _ => rfl⟩
  d_are_links := ⟨F11, He.glo_ok X G (c.1.fact 35 (f := .glo "are_links") rfl), F11.bindsN fun _ _ _ _ _ _ us hl => match us, hl with | [_], _ => rfl⟩
  d_web_of := ⟨F12, He.glo_ok X G (c.1.fact 36 (f := .glo "web_of") rfl), F12.bindsN fun _ _ _ _ _ _ us hl => match us, hl with | [_], _ => rfl⟩
  d_closed := ⟨F13, He.glo_ok X G (c.1.fact 37 (f := .glo "closed") rfl), F13.bindsN fun _ _ _ _ _ _ us hl => match us, hl with | [_], _ => rfl⟩
  d_told := ⟨F14, He.glo_ok X G (c.1.fact 38 (f := .glo "told") rfl), F14.bindsN fun _ _ _ _ _ _ us hl => match us, hl with | [_, _], _ => rfl⟩
  d_web_text := ⟨F15, He.glo_ok X G (c.1.fact 39 (f := .glo "web_text") rfl), F15.bindsN fun _ _ _ _ _ _ us hl => match us, hl with | [_], _ => rfl⟩
  d_record_text := ⟨F16, He.glo_ok X G (c.1.fact 40 (f := .glo "record_text") rfl), F16.bindsN fun _ _ _ _ _ _ us hl => match us, hl with | [_], _ => rfl⟩
  d_hall_text := ⟨F17, He.glo_ok X G (c.1.fact 41 (f := .glo "hall_text") rfl), F17.bindsN fun _ _ _ _ _ _ us hl => match us, hl with | [_], _ => rfl⟩
  d_number_in := ⟨F18, He.glo_ok X G (c.1.fact 42 (f := .glo "number_in") rfl), F18.bindsN fun _ _ _ _ _ _ us hl => match us, hl with | [_], _ => rfl⟩
  d_numbers_in := ⟨F19, He.glo_ok X G (c.1.fact 43 (f := .glo "numbers_in") rfl), F19.bindsN fun _ _ _ _ _ _ us hl => match us, hl with | [_, _], _ => rfl⟩
  d_lines_of := ⟨F20, He.glo_ok X G (c.1.fact 44 (f := .glo "lines_of") rfl), F20.bindsN fun _ _ _ _ _ _ us hl => match us, hl with | [_], _ => rfl⟩
  d_check_end := ⟨F21, He.glo_ok X G (c.1.fact 45 (f := .glo "check_end") rfl), F21.bindsN fun _ _ _ _ _ _ us hl => match us, hl with | [_, _], _ => rfl⟩
  d_parts_in := ⟨F22, He.glo_ok X G (c.1.fact 46 (f := .glo "parts_in") rfl), F22.bindsN fun _ _ _ _ _ _ us hl => match us, hl with | [_, _, _, _], _ => rfl⟩
  d_read_web := ⟨F23, He.glo_ok X G (c.1.fact 47 (f := .glo "read_web") rfl), F23.bindsN fun _ _ _ _ _ _ us hl => match us, hl with | [_], _ => rfl⟩
  d_read_record := ⟨F24, He.glo_ok X G (c.1.fact 48 (f := .glo "read_record") rfl), F24.bindsN fun _ _ _ _ _ _ us hl => match us, hl with | [_], _ => rfl⟩
  d_read_hall := ⟨F25, He.glo_ok X G (c.1.fact 49 (f := .glo "read_hall") rfl), F25.bindsN fun _ _ _ _ _ _ us hl => match us, hl with | [_], _ => rfl⟩
  d_law_hand := ⟨F26, He.glo_ok X G (c.1.fact 50 (f := .glo "_law_hand") rfl), F26.bindsN fun _ _ _ _ _ _ us hl => match us, hl with | [_], _ => rfl⟩
  d_law_draw := ⟨F27, He.glo_ok X G (c.1.fact 51 (f := .glo "_law_draw") rfl), F27.bindsN fun _ _ _ _ _ _ us hl => match us, hl with | [_, _], _ => rfl⟩
  d_law_wires := ⟨F28, He.glo_ok X G (c.1.fact 52 (f := .glo "_law_wires") rfl), F28.bindsN fun _ _ _ _ _ _ us hl => match us, hl with | [_, _, _], _ => rfl⟩
  d_law_web := ⟨F29, He.glo_ok X G (c.1.fact 53 (f := .glo "_law_web") rfl), F29.bindsN fun _ _ _ _ _ _ us hl => match us, hl with | [_, _], _ => rfl⟩
  d_law_lines := ⟨F30, He.glo_ok X G (c.1.fact 54 (f := .glo "_law_lines") rfl), F30.bindsN fun _ _ _ _ _ _ us hl => match us, hl with | [_], _ => rfl⟩
  d_law_is := ⟨F31, He.glo_ok X G (c.1.fact 55 (f := .glo "_law_is") rfl), F31.bindsN fun _ _ _ _ _ _ us hl => match us, hl with | [_, _], _ => rfl⟩
  d_law_shuffled := ⟨F32, He.glo_ok X G (c.1.fact 56 (f := .glo "_law_shuffled") rfl), F32.bindsN fun _ _ _ _ _ _ us hl => match us, hl with | [_, _], _ => rfl⟩
  d_law_some_record := ⟨F33, He.glo_ok X G (c.1.fact 57 (f := .glo "_law_some_record") rfl), F33.bindsN fun _ _ _ _ _ _ us hl => match us, hl with | [_], _ => rfl⟩
  d_law_hall := ⟨F34, He.glo_ok X G (c.1.fact 58 (f := .glo "_law_hall") rfl), F34.bindsN fun _ _ _ _ _ _ us hl => match us, hl with | [_], _ => rfl⟩
  d_law := ⟨F35, He.glo_ok X G (c.1.fact 59 (f := .glo "law") rfl), F35.bindsN fun _ _ _ _ _ _ us hl => match us, hl with | [_], _ => rfl⟩
  t_Web_init := ⟨F36, F36.bindsN (fun _ _ _ _ _ _ us hl => match us, hl with | [_, _, _], _ => rfl), He.meth_ok (c.1.fact 60 (f := .meth "Web" "__init__") rfl)⟩
  t_Web_keep := ⟨F37, F37.bindsN (fun _ _ _ _ _ _ us hl => match us, hl with | [_, _, _], _ => rfl), He.meth_ok (c.1.fact 61 (f := .meth "Web" "keep") rfl)⟩
  t_Web_eq := ⟨F38, F38.bindsN (fun _ _ _ _ _ _ us hl => match us, hl with | [_, _], _ => rfl), He.meth_ok (c.1.fact 62 (f := .meth "Web" "__eq__") rfl)⟩
  t_RawWeb_init := ⟨F39, F39.bindsN (fun _ _ _ _ _ _ us hl => match us, hl with | [_, _, _], _ => rfl), He.meth_ok (c.1.fact 63 (f := .meth "RawWeb" "__init__") rfl)⟩
  t_RawWeb_keep := ⟨F40, F40.bindsN (fun _ _ _ _ _ _ us hl => match us, hl with | [_, _, _], _ => rfl), He.meth_ok (c.1.fact 64 (f := .meth "RawWeb" "keep") rfl)⟩
  t_Record_init := ⟨F41, F41.bindsN (fun _ _ _ _ _ _ us hl => match us, hl with | [_, _, _], _ => rfl), He.meth_ok (c.1.fact 65 (f := .meth "Record" "__init__") rfl)⟩
  t_Record_keep := ⟨F42, F42.bindsN (fun _ _ _ _ _ _ us hl => match us, hl with | [_, _, _], _ => rfl), He.meth_ok (c.1.fact 66 (f := .meth "Record" "keep") rfl)⟩
  t_Record_eq := ⟨F43, F43.bindsN (fun _ _ _ _ _ _ us hl => match us, hl with | [_, _], _ => rfl), He.meth_ok (c.1.fact 67 (f := .meth "Record" "__eq__") rfl)⟩
  t_Hall_init := ⟨F44, F44.bindsN (fun _ _ _ _ _ _ us hl => match us, hl with | [_, _, _], _ => rfl), He.meth_ok (c.1.fact 68 (f := .meth "Hall" "__init__") rfl)⟩
  t_Hall_eq := ⟨F45, F45.bindsN (fun _ _ _ _ _ _ us hl => match us, hl with | [_, _], _ => rfl), He.meth_ok (c.1.fact 69 (f := .meth "Hall" "__eq__") rfl)⟩
  C_Web := ⟨He.glo_ok X G (c.1.fact 72 (f := .glo "Web") rfl), He.cls_ok (c.1.fact 73 (f := .cls "Web") rfl), He.mkr_ok (c.1.fact 74 (f := .mkr "Web") rfl), fun f hf => by
    simp only [List.mem_cons, List.not_mem_nil, or_false] at hf
    rcases hf with rfl | rfl
    · exact He.noat_ok (c.1.fact 70 (f := .noat "Web" "machines") rfl)
    · exact He.noat_ok (c.1.fact 71 (f := .noat "Web" "wires") rfl)⟩
  C_RawWeb := ⟨He.glo_ok X G (c.1.fact 77 (f := .glo "RawWeb") rfl), He.cls_ok (c.1.fact 78 (f := .cls "RawWeb") rfl), He.mkr_ok (c.1.fact 79 (f := .mkr "RawWeb") rfl), fun f hf => by
    simp only [List.mem_cons, List.not_mem_nil, or_false] at hf
    rcases hf with rfl | rfl
    · exact He.noat_ok (c.1.fact 75 (f := .noat "RawWeb" "machines") rfl)
    · exact He.noat_ok (c.1.fact 76 (f := .noat "RawWeb" "wires") rfl)⟩
  C_Record := ⟨He.glo_ok X G (c.1.fact 83 (f := .glo "Record") rfl), He.cls_ok (c.1.fact 84 (f := .cls "Record") rfl), He.mkr_ok (c.1.fact 85 (f := .mkr "Record") rfl), fun f hf => by
    simp only [List.mem_cons, List.not_mem_nil, or_false] at hf
    rcases hf with rfl | rfl | rfl
    · exact He.noat_ok (c.1.fact 80 (f := .noat "Record" "writers") rfl)
    · exact He.noat_ok (c.1.fact 81 (f := .noat "Record" "diaries") rfl)
    · exact He.noat_ok (c.1.fact 82 (f := .noat "Record" "places") rfl)⟩
  C_Hall := ⟨He.glo_ok X G (c.1.fact 88 (f := .glo "Hall") rfl), He.cls_ok (c.1.fact 89 (f := .cls "Hall") rfl), He.mkr_ok (c.1.fact 90 (f := .mkr "Hall") rfl), fun f hf => by
    simp only [List.mem_cons, List.not_mem_nil, or_false] at hf
    rcases hf with rfl | rfl
    · exact He.noat_ok (c.1.fact 86 (f := .noat "Hall" "links") rfl)
    · exact He.noat_ok (c.1.fact 87 (f := .noat "Hall" "places") rfl)⟩
  i_Web := insB_ok (exB_at c.2 (x := "Web") (by decide)).1
  n_Web := neB_ok (exB_at c.2 (x := "Web") (by decide)).2
  i_Record := insB_ok (exB_at c.2 (x := "Record") (by decide)).1
  n_Record := neB_ok (exB_at c.2 (x := "Record") (by decide)).2
  i_Hall := insB_ok (exB_at c.2 (x := "Hall") (by decide)).1
  n_Hall := neB_ok (exB_at c.2 (x := "Hall") (by decide)).2}
end GA
/-! GaEnd: the head's run, the law. -/
namespace GA
open PySem PySem.Spec PyProof.Rows L2
theorem run (w : World) : HandSHeadRun.RunEq R (PySem.W.view R.prog [58]) hk ob 6000 names w := by
  intro os
  kernel_rfl
end GA
open PySem PySem.W PySem.Calls PyProof.Rows
theorem PySem.Challenge.cw_growalong_k48_whole_texts_there_and_back_holds : PySem.Challenge.rw_growalong_k48_whole_texts_there_and_back.Holds := by
  w_on; o_law
  refine HandSHeadRun.head_any (r := OpenLaw.row PySem.Challenge.rw_growalong_k48_whole_texts_there_and_back) (q := view (OpenLaw.row PySem.Challenge.rw_growalong_k48_whole_texts_there_and_back).prog [58]) (H := GA.hk) (ob := GA.ob) (M := 6000) (loose := GA.names) (d := HandSHeadRun.topDef (OpenLaw.row PySem.Challenge.rw_growalong_k48_whole_texts_there_and_back).prog 58) (kwd := []) GA.ob_eq
    (by kernel_rfl) (fun s => by kernel_rfl) GA.run (by kernel_rfl) (by kernel_rfl) (by kernel_rfl) (by rfl) (by first | assumption | decide +kernel) (by decide +kernel) ⟨rfl, rfl, rfl, rfl, rfl, by decide +kernel⟩ ?hw ?hc
  case hw => w_witness2
  case hc =>
    refine L2.walk_ofE (l := PySem.Challenge.rw_growalong_k48_whole_texts_there_and_back) (n := 63) (k := 10) (x := "_law_script") (CX := L2.CX0) rfl (by decide) (by kernel_rfl) ⟨rfl, by decide, by decide⟩ ?F (fun _ _ _ _ z => z)
    intro w mg fa h Y G hmg0
    obtain ⟨K, KX, c⟩ := Y
    have hmg : mg ("law" : PySem.Str) = some (.ref fa) := by
      have e : (HandSHeadRun.topDef (OpenLaw.row PySem.Challenge.rw_growalong_k48_whole_texts_there_and_back).prog 58).name = ("law" : PySem.Str) := by kernel_rfl
      rw [← e]
      exact hmg0
    have T := GA.facts KX G c
    have e := hmg.symm.trans T.d_law.g
    cases e
    have b := L2.FunD.bindsA (ps := ["_law_script"]) T.d_law.fn fun _ _ _ _ _ _ us hl => match us, hl with | [_], _ => rfl
    exact ⟨K, _, GA.sp_law K, KX, fun s v => b s [v] rfl, fun H a ns hl _ hS => ⟨a, ns, rfl, hS, hl, fun _ => rfl⟩, fun base _ _ => GA.ok_law T⟩
