import PyProof.Rows.All
import Wide.All
import OpenK.AllK
import Wide.FinOn
import HandS.ForExc
import HandS.ForMost
import HandS.Star
import HandS.Property
import HandS.MakeKwOnly
import HandS.Defaults
import HandS.IsInst
import HandS.Style
import HandS.Wide
import HandS.TupAny
import HandS.Evl
import HandS.Conv
import KE.GoesEnum
import PySem.Challenge.RW_downhillnet_k12_whole_wires_lost_and_dou
import HandS.Head0
import HandS.Head1
import HandS.Head2
import HandS.HeadEnd
import HandS.HeadHook1
import HandS.HeadHook2
import HandS.HeadNt
set_option Elab.async false
set_option linter.all false
set_option maxRecDepth 100000
set_option maxHeartbeats 4000000
/-! Dh: rules and words of our own over the hand layer -/
namespace Dh
open PySem PySem.Spec PyProof.Rows L2

/-! ### calls with keywords alone -/
section
variable {K : PySem.W.Frag} {x qual : Str} {st : Stmt} {f : Addr} {fd : FuncData} {ps : List Str}
theorem fun_kb (F : Fun K x qual st f fd) (n : Nat) (ks : List Str)
    (h : ∀ (kV doc pm : Value) (an : Option Addr) (cdv ct : Value) (us ws : List Value), us.length = n → ws.length = ks.length →
      bindArgs (PySem.W.fnOf x qual (defArgs st) (defBody st) (defScope st) .none kV doc pm an cdv ct) ⟨us, ks.zip ws⟩ = pure (ps.zip (us ++ ws))) :
    KBn K fd ps n ks (fun us ws => us ++ ws) (fun vs zs => vs ++ zs) := by
  obtain ⟨oc, od, kV, doc, pm, an, cdv, ct, osl, rfl, lk, hcd⟩ := F.ex
  exact ⟨fun s us ws _ l1 l2 => .of_eq (h kV doc pm an cdv ct us ws l1 l2), fun r1 r2 => r1.append r2⟩
end
def tCallN0 (m : Nat) (sp : Sp) (gV : List V → List V → List V) (E : XK) (tk : TA) : TE := fun σ H Q => tk σ H fun zs H2 => zs.length = m ∧ sp (gV [] zs) H2 Q E
def tMethN (C : Addr) (m : Str) (k : Nat) (sp : Sp) (gV : List V → List V → List V) (E : XK) (ta : TE) (tk : TA) : TE := fun σ H Q => ta σ H fun x H1 => ∃ a dx fs, x = .ref a ∧ H1 a = some (.ins C dx fs) ∧ fs.lookup m = none ∧
  tk σ H1 fun zs H2 => zs.length = k ∧ sp (gV [x] zs) H2 Q E
section
variable {X : Cx} {CX : CXT} {k : Nat} {f C : Addr} {fd : FuncData} {ps ks : List Str} {sp : Sp} {E : XK} {x m : Str} {p pos apos : Pos} {o : Expr} {kws : List Keyword} {ta : TE} {tk : TA} {g : List Value → List Value → List Value} {gV : List V → List V → List V}
theorem pe_callN0 (F : FnOk X.prog X.w X.K X.mg X.base CX k f fd ps sp) (hr : Room k X.A) (hg : Gl X x) (hm : X.mg x = some (.ref f)) (hk : PySem.W.keepIn X.K (.ref f) = true) (hb : KBn X.K fd ps 0 ks g gV) (hx : Passes CX X E)
    (hkw : PK X kws tk) (hall : (backToKw pos (keywordEach kws X.env)).all (·.1.isSome) = true := by rfl) (hks : (backToKw pos (keywordEach kws X.env)).filterMap (·.1) = ks := by rfl)
    (hdb : (x == ("__debug__" : Str)) = false := by decide)
    (hpl : ((backTo pos (starEach [] X.env)).any (·.1) || (backToKw pos (keywordEach kws X.env)).any (·.1.isNone)) = false := by rfl) :
    PE X (.Call (.Name x p) [] kws pos) (tCallN0 ks.length sp gV E tk) := by
  refine ⟨fun pins s σ H Q I h => ?_⟩
  refine wpAny_Call_Name_kw (ld_glob I hg hm ?_ hdb)
  refine PySem.W.callWith_KW0 (h₀ := X.base) I.ok.mod.kin hk hall ?_ hpl
  refine thn (hkw.run pos pins s σ H _ I h) fun ws s2 ⟨zs, H2, I2, rz, l2, q2⟩ => ⟨I2.kIn, ?_⟩
  rw [hks]
  exact run_fnN (us := []) (vs := []) F hr hb hx I2 .nil rz rfl l2 q2
theorem pe_methN {pl : Sem Bool} (he : PE X o ta) (c : Cls X.K C) (hm : Meth X.K C m f) (F : FnOk X.prog X.w X.K X.mg X.base CX k f fd ps sp) (hr : Room k X.A) (hb : KBn X.K fd ps 1 ks g gV) (hx : Passes CX X E)
    (hkw : PK X kws tk) (hall : (backToKw pos (keywordEach kws X.env)).all (·.1.isSome) = true := by rfl) (hks : (backToKw pos (keywordEach kws X.env)).filterMap (·.1) = ks := by rfl)
    (hpl : ((backTo pos (starEach [] X.env)).any (·.1) || (backToKw pos (keywordEach kws X.env)).any (·.1.isNone)) = false := by rfl)
    (ht : eval (.Call (.Attribute o m apos) [] kws pos) X.env = (do
      let ov ← eval o X.env
      standAt apos.atName
      let (f, first) ← holding [ov] (getMethod ov m pl)
      callWith pos f first (backTo pos (starEach [] X.env)) (backToKw pos (keywordEach kws X.env))) := by rfl) :
    PE X (.Call (.Attribute o m apos) [] kws pos) (tMethN C m ks.length sp gV E ta tk) := by
  refine ⟨fun pins s σ H Q I h => ?_⟩
  refine PySem.W.methodCall_KW (pl := pl) (thn (he.run pins s σ H _ I h) fun u s1 ⟨x, H1, I1, rx, a, dx, fs, ex, ea, l, q⟩ => ?_) ht
  subst ex
  obtain rfl : u = Value.ref a := rx
  refine getmeth_ok I1 ea c hm l ?_
  refine PySem.W.callWith_KW0 (first := [.ref a]) (h₀ := X.base) I.ok.mod.kin hm.kp hall ?_ hpl
  refine thn (hkw.run pos pins s1 σ H1 _ I1 q) fun ws s2 ⟨zs, H2, I2, rz, l2, q2⟩ => ⟨I2.kIn, ?_⟩
  rw [hks]
  exact run_fnN (us := [.ref a]) (vs := [.ref a]) F hr hb hx I2 (.cons rfl .nil) rz rfl l2 q2
end

/-! ### a, o.f = .. : an attribute as a target -/
def gFld (K : PySem.W.Frag) (ta : TE) (f : Str) : TG := fun y σ H Q => ta σ H fun x H2 => ∃ a C dx fs, x = .ref a ∧ H2 a = some (.ins C dx fs) ∧ Cls K C ∧ NoAttr K C f ∧ fs.length < 1000 ∧
  Q σ (upd H2 a (.ins C dx (putF f y fs)))
theorem pg_fld {X : Cx} {o : Expr} {f : Str} {pos : Pos} {ta : TE} (ho : PE X o ta) : PG X (.Attribute o f pos) (gFld X.K ta f) := by
  refine ⟨fun pins s σ H v u Q I r h => ?_⟩
  rw [assign_Attribute]
  refine wpAny_bind (wpAny_holding (thn (ho.run pins s σ H _ I h) fun ov s1 ⟨x, H1, I1, rx, a, C, dx, fs, ex, ea, c, n, l, q⟩ => ?_))
  subst ex
  obtain rfl : ov = Value.ref a := rx
  refine wpAny_bind (wpAny_standAt (wpAny_bind (wpAny_holding (setattr_ok I1 ea c n l r fun s2 I2 => ?_))))
  exact wpAny_release ⟨σ, _, I2, q⟩

/-! ### powers of greater numbers -/
def CPowW (i j : Int) : Prop := 0 ≤ j ∧ (Builtin.Int.intBits i : Int) * j ≤ 2 ^ 27
theorem op_powW {X : Cx} : OpR X (binaryOp .Pow) (rI CPowW fun i j => .int (i ^ j.toNat)) := opI fun _ _ _ _ _ _ _ hc q => pow_int hc.1 hc.2 q

/-! ### enumerate(tuple) -/
theorem meets_enumerate_newT {v : Value} {o : Obj} {H : Heap → Prop} (B : Begins v o H) :
    Meets (Builtin.«enumerate.__new__» ⟨[.type "enumerate", v], []⟩) (fun _ R s => H s.heap ∧
      R (.ok (.ret (.ref (s.heap.push o).objs.size))) { s with heap := (s.heap.push o).push { cls := .type "enumerate", data := .fields #[.none, .bool false, .ref s.heap.objs.size, rawInt 0, .none, .none] } }) :=
  .of_wp fun prog w A R s h => by
    obtain ⟨hp, g, d, tk, os⟩ := s; obtain ⟨h1, h⟩ := h
    have hsub := sub_enumerate
    have q1 : ∀ {A' : Around} {E : Value → Shared → Prop} {Q : Value → Shared → Prop}, Q (.ref hp.objs.size) ⟨hp.push o, g, d, tk, os⟩ → wpAny (model prog w) A' (pyIter v) Q E ⟨hp, g, d, tk, os⟩ :=
      fun q => B.iter prog w _ _ ⟨hp, g, d, tk, os⟩ _ h1 q
    wp_walk using q1
    refine wpAny_stack_any fun st => wpAny_pure ?_
    split
    · rename_i c _ _ _ _ _
      cases (c == Value.type "enumerate")
      · wp_walk using q1
        exact ⟨_, rfl, h⟩
      · wp_walk using q1
        exact ⟨_, rfl, h⟩
    · wp_walk using q1
      exact ⟨_, rfl, h⟩
theorem call_enumerate_tup {prog : Program} {w : World} {A : Around} {E : Value → Shared → Prop} {s : Shared} {l : Addr} {items : Array Value} {Q : Value → Shared → Prop} (hL : s.heap.IsTuple l items)
    (h : ∀ h', IsEnum h' (s.heap.objs.size + 1) s.heap.objs.size 0 .none → h'.IsTupleIter s.heap.objs.size l 0 → h'.objs.size = s.heap.objs.size + 2 →
      (∀ b o, s.heap.get? b = some o → h'.get? b = some o) → Q (.ref (s.heap.objs.size + 1)) { s with heap := h' }) :
    wpAny (model prog w) A (call (.type "enumerate") [.ref l]) Q E s := by
  refine callType_new F.called_enumerate (by decide) (F.typeCall_enumerate_1 _) (F.newCall_enumerate_1 _) (fun obj => F.args_object_init_2 obj _) F.entry_enumerate_new
    (meets_enumerate_newT (begins_tuple l items)) ⟨hL, ?_⟩
  have hz : (s.heap.push { cls := .type "tuple_iterator", data := .fields #[.ref l, .int 0 0] }).objs.size = s.heap.objs.size + 1 := Heap.size_push ..
  show _ ∧ _
  rw [hz]
  have he : IsEnum ((s.heap.push { cls := .type "tuple_iterator", data := .fields #[.ref l, .int 0 0] }).push
      { cls := .type "enumerate", data := .fields #[.none, .bool false, .ref s.heap.objs.size, rawInt 0, .none, .none] }) (s.heap.objs.size + 1) s.heap.objs.size 0 .none := by
    have := Heap.get?_push_size (s.heap.push { cls := .type "tuple_iterator", data := .fields #[.ref l, .int 0 0] })
      (o := { cls := .type "enumerate", data := .fields #[.none, .bool false, .ref s.heap.objs.size, rawInt 0, .none, .none] }) rfl
    rw [hz] at this; exact this
  refine ⟨⟨_, he, rfl⟩, h _ he ⟨_, Heap.get?_push_of_some _ (Heap.get?_push_size _ rfl), rfl, rfl⟩ (by rw [Heap.size_push, hz]) fun b o x => Heap.get?_push_of_some _ (Heap.get?_push_of_some _ x)⟩
/-- the tuple at a, each item in a new pair -/
def IteT (K : PySem.W.Frag) (a : Addr) : It :=
  ⟨fun i H => ∃ (xs : List V) (x : V), SqT K H a xs ∧ xs[i]? = some x, fun i H v H' => ∃ T x, v = .ref T ∧ H T = none ∧ H' = upd H T (.tup [.int (i : Nat), x]) ∧ ∀ xs, SqT K H a xs → xs[i]? = some x, fun i H => ∃ xs : List V, SqT K H a xs ∧ xs.length = i⟩
theorem turn_enumT {P : Program} {w : World} {K : PySem.W.Frag} {elts : List Expr} {kk : Nat} {tpos : Pos} (a e it : Addr) (hat : a ≠ it) :
    Turn P w K (.Tuple elts kk tpos) (IteT K a) [e, it] e (fun i h => (∃ old, IsEnum h e it ((i : Nat) : Int) old) ∧ h.IsTupleIter it a i ∧ e ≠ it ∧ e ≠ a) where
  mem := by simp
  obj := fun i h st b hb => by
    obtain ⟨⟨old, he⟩, ⟨o, ho, hc, hd⟩, _⟩ := st
    have e' : b = e ∨ b = it := by simpa using hb
    rcases e' with z | z
    · rw [z]; exact ⟨_, he, fun v q => nomatch q⟩
    · rw [z]; exact ⟨o, ho, fun v q => by rw [hd] at q; cases q⟩
  keep := fun i h h' st k => let ⟨⟨old, he⟩, hi, hne, hea⟩ := st; ⟨⟨old, k e (by simp) _ he⟩, hi.at fun o q => k it (by simp) o q, hne, hea⟩
  item := by
    intro X hP hw hK hc i pins s σ H E I hf st hg
    subst hP hw hK
    obtain ⟨⟨old, he⟩, hit, hne, hea⟩ := st
    obtain ⟨xs, x, hq, hx⟩ := hg
    obtain ⟨its, rv, p, hz⟩ := I.tuple hq
    obtain ⟨u, hu, ru⟩ := rv.get hx
    have hel : e < s.heap.objs.size := Heap.lt_size he
    have hil : it < s.heap.objs.size := by obtain ⟨_, q, _⟩ := hit; exact Heap.lt_size q
    have D := Draws.tuple (prog := X.prog) (w := X.w) (A := X.A.in1) (I.ok.hd hc) it a hat its.toArray
    have hil' : i < its.toArray.size := by
      have := (List.getElem?_eq_some_iff.mp hu).1
      simpa using this
    refine wpAny_pyNext_enum_itemD D he ⟨hit, p⟩ hil' hne (by simp [hne, hea]) fun x' h' tk hP ho hst' hT hsz hk => ?_
    obtain rfl : x' = u := by
      have e1 : its.toArray[i]? = some x' := hP
      rw [List.getElem?_toArray, hu] at e1
      exact (Option.some.inj e1).symm
    refine ⟨_, rfl, wpAny_letOwnedTupleGo_enum (s := { s with heap := h', toks := tk + 1 }) ho fun h'' he' sb => ?_⟩
    have hT2 : h''.get? s.heap.objs.size = some { cls := .type "tuple", data := .seq #[.int i tk, x'] } := (sb.2 _ (Nat.ne_of_gt hel)).trans hT
    have new : ObjOk X.prog X.w (upd H s.heap.objs.size (.tup [.int (i : Nat), x])) h'' s.heap.objs.size (.tup [.int (i : Nat), x]) :=
      ⟨by show 2 ≤ sizeLine; decide, [.int i tk, x'], .cons ⟨_, rfl⟩ (.cons ru .nil), ⟨_, hT2, rfl, _, rfl⟩⟩
    have I1 : Inv X pins σ (upd H s.heap.objs.size (.tup [.int (i : Nat), x])) { s with heap := h'', toks := tk + 1 } :=
      I.turnedNew (ch := [e, it]) (fun b ob hb q => (sb.2 b (fun z => hb (by simp [z]))).trans (hk b ob (fun z => hb (by simp [z])) (fun z => hb (by simp [z])) q)) hf (Nat.le_refl _) new
    refine ⟨.ref s.heap.objs.size, _, I1, rfl, ⟨_, x, rfl, I.hok.fresh (Nat.le_refl _), rfl, fun ys hy => by rw [I.tuple_inj hy hq]; exact hx⟩, ⟨⟨x', ?_⟩, hst'.1.at fun o q => (sb.2 it (Ne.symm hne)).trans q, hne, hea⟩, fun b hb => ?_⟩
    · have e1 : ((i + 1 : Nat) : Int) = (i : Int) + 1 := by omega
      rw [e1]; exact he'
    · have hb' : b < s.heap.objs.size := by
        have e' : b = e ∨ b = it := by simpa using hb
        rcases e' with z | z
        · rw [z]; exact hel
        · rw [z]; exact hil
      rw [upd_ne (Nat.ne_of_lt hb')]
      exact (hf b hb).1
  done := by
    intro X hP hw hK hc i pins s σ H E I hf st hg
    subst hP hw hK
    obtain ⟨⟨old, he⟩, hit, hne, hea⟩ := st
    obtain ⟨xs, hq, hx⟩ := hg
    obtain ⟨its, rv, p, hz⟩ := I.tuple hq
    obtain ⟨f0, f1, f2, f3, f4, f5⟩ := hf it (by simp)
    have hl := rv.length
    have D := Draws.tuple (prog := X.prog) (w := X.w) (A := X.A.in1) (I.ok.hd hc) it a hat its.toArray
    have en : i = its.toArray.size := by rw [List.size_toArray]; omega
    rw [en] at hit
    exact wpAny_pyNext_enum_endD (i := (i : Int)) D he ⟨hit, p⟩ fun h' eb => ⟨rfl, I.turned (t' := s.toks) (fun b o hb q => eb b o hb q) f0 f1 f3 f4 f5⟩
  self := fun A i s Q E st h => let ⟨⟨_, he⟩, _⟩ := st; wpAny_pyIter_enum he h


def iEnumT (K : PySem.W.Frag) (ta : TA) : TI := fun σ H R => ta σ H fun vs H1 => ∃ a xs, vs = [.ref a] ∧ SqT K H1 a xs ∧ R (IteT K a) H1
theorem pi_enumT {X : Cx} {e : Expr} {ta : TA} {p pos tpos : Pos} {elts : List Expr} {kk : Nat} (hg : Gl X "enumerate") (hm : X.mg "enumerate" = none) (ha : PA X [e] ta) (hs : starEach [e] X.env = [(false, eval e X.env)] := by rfl) :
    PI X (.Tuple elts kk tpos) (.Call (.Name "enumerate" p) [e] [] pos) (iEnumT X.K ta) := by
  refine ⟨fun pins s σ H R I h => ?_⟩
  refine Call_ (ld_blt I hg hm boot_enumerate (PyProof.Rows.callWith_type1 (thn (ha.run pos pins s σ H _ I h) fun us s1 ⟨vs, H1, I1, r1, q1⟩ => ?_) hs rfl))
  obtain ⟨a, xs, ex, hq, q⟩ := q1
  subst ex
  cases r1 with
  | cons r rr =>
    cases rr
    cases r
    obtain ⟨its, rv, p', hz⟩ := I1.tuple hq
    have hal : a < s1.heap.objs.size := p'.lt
    refine call_enumerate_tup (show s1.heap.IsTuple a its.toArray from p') fun h' he hit hsz hk => wpAny_pyIter_enum he ?_
    have I2 : Inv X pins σ H1 { s1 with heap := h' } := I1.kept (t' := s1.toks) hk
    refine ⟨s1.heap.objs.size + 1, [s1.heap.objs.size + 1, s1.heap.objs.size], _, _, H1, rfl, I2, turn_enumT a (s1.heap.objs.size + 1) s1.heap.objs.size (Nat.ne_of_lt hal), ⟨⟨.none, he⟩, hit, Nat.succ_ne_self _, Ne.symm (Nat.ne_of_lt (Nat.lt_succ_of_lt hal))⟩, fun b hb => ?_, q⟩
    have e' : b = s1.heap.objs.size + 1 ∨ b = s1.heap.objs.size := by simpa using hb
    have hle : s1.heap.objs.size ≤ b := by
      rcases e' with z | z
      · rw [z]; exact Nat.le_add_right _ _
      · rw [z]; exact Nat.le_refl _
    exact I1.fpOk hle (I1.hok.fresh hle)
theorem for_enumT {K : PySem.W.Frag} {a : Addr} {xs : List V} {g : TG} {tb : TS} {D : Ends} {σ : L2.St} {H : Hp} (Pv : Nat → L2.St → Hp → Prop) (h0 : Pv 0 σ H) (hl : ∀ i σ H, i ≤ xs.length → Pv i σ H → SqT K H a xs)
    (hs : ∀ (i : Nat) x (T : Addr) σ H, xs[i]? = some x → Pv i σ H → H T = none → g (.ref T) σ (upd H T (.tup [.int (i : Nat), x])) fun σ2 H2 => tb { D with nx := Pv (i + 1), ct := Pv (i + 1), bk := D.nx } σ2 H2) (hd : ∀ σ H, Pv xs.length σ H → D.nx σ H) :
    ∃ W : Nat → Nat → L2.St → Hp → Prop, (∃ m, W 0 m σ H) ∧ ∀ i m σ H, W i m σ H →
      ((IteT K a).stop i H ∧ D.nx σ H) ∨ ((IteT K a).go i H ∧ ∃ N : L2.St → Hp → Prop, (∀ σ' H', N σ' H' → ∃ m', m' < m ∧ W (i + 1) m' σ' H') ∧ ∀ x H', (IteT K a).yld i H x H' → g x σ H' fun σ2 H2 => tb { D with nx := N, ct := N, bk := D.nx } σ2 H2) := by
  refine ⟨fun i m σ H => m = xs.length - i ∧ i ≤ xs.length ∧ Pv i σ H, ⟨xs.length, by simp, Nat.zero_le _, h0⟩, ?_⟩
  rintro i m σ H ⟨rfl, hi, p⟩
  have q := hl i σ H hi p
  by_cases hlt : i < xs.length
  · refine .inr ⟨⟨xs, xs[i], q, by simp [hlt]⟩, Pv (i + 1), fun σ' H' p' => ⟨xs.length - (i + 1), by omega, rfl, hlt, p'⟩, fun x H' y => ?_⟩
    obtain ⟨T, z, e, hT, e2, y⟩ := y
    subst e e2
    exact hs i z T σ _ (y xs q) p hT
  · have e : i = xs.length := by omega
    subst e
    exact .inl ⟨⟨xs, q, rfl⟩, hd σ H p⟩

/-! ### defs, methods, classes, properties in one word each -/
section
variable (P : Program) (w : World) (K : PySem.W.Frag) (mg : Str → Option Value) (base : Heap)
structure Cl (k : Nat) (x : Str) (ps : List Str) (sp : Sp) : Prop where
  ex : ∃ (f : Addr) (fd : FuncData), FnOk P w K mg base CX0 k f fd ps sp ∧ mg x = some (.ref f) ∧ PySem.W.keepIn K (.ref f) = true ∧ Binds K fd ps [] ∧ KBn K fd ps 0 ps (fun us ws => us ++ ws) (fun vs zs => vs ++ zs)
structure Mt (k : Nat) (C : Addr) (m : Str) (ps : List Str) (sp : Sp) : Prop where
  ex : ∃ (f : Addr) (fd : FuncData), Cls K C ∧ Meth K C m f ∧ FnOk P w K mg base CX0 k f fd ps sp ∧ Binds K fd ps [] ∧ KBn K fd ps 1 ps.tail (fun us ws => us ++ ws) (fun vs zs => vs ++ zs)
structure Mkr (k : Nat) (x : Str) (C : Addr) (ps : List Str) (sp : Sp) : Prop where
  ex : ∃ (f : Addr) (fd : FuncData), Mk K C f ∧ FnOk P w K mg base CX0 k f fd ps sp ∧ mg x = some (.ref C) ∧ Binds K fd ps [] ∧ KBn K fd ps 1 ps.tail (fun us ws => us ++ ws) (fun vs zs => vs ++ zs)
structure Prp (k : Nat) (C : Addr) (m : Str) (sp : Sp) : Prop where
  ex : ∃ (p g : Addr) (fd : FuncData), Cls K C ∧ PropOf K C m p g ∧ FnOk P w K mg base CX0 k g fd ["self"] sp ∧ Binds K fd ["self"] []
end
section
variable {X : Cx} {k j : Nat} {C : Addr} {ps : List Str} {sp : Sp} {x m : Str} {p pos apos : Pos} {o e : Expr} {es : List Expr} {kws : List Keyword} {ta : TE} {t tk : TA}
theorem pe_cl (c : Cl X.prog X.w X.K X.mg X.base k x ps sp) (hr : Room j X.A) (hk : k ≤ j) (hg : Gl X x) (ha : PA X (e :: es) t)
    (hdb : (x == ("__debug__" : Str)) = false := by decide) (he : starEach (e :: es) X.env = (false, eval e X.env) :: starEach es X.env := by rfl) (hpl : (backTo pos (starEach es X.env)).any (·.1) = false := by rfl) :
    PE X (.Call (.Name x p) (e :: es) [] pos) (tCall sp [] E0 t) := by
  obtain ⟨f, fd, F, hm, kp, b, _⟩ := c.ex
  exact pe_call F (hr.mono hk) hg hm kp b .nil pass0 ha hdb he hpl
theorem pe_clK (c : Cl X.prog X.w X.K X.mg X.base k x ps sp) (hr : Room j X.A) (hk : k ≤ j) (hg : Gl X x) (hkw : PK X kws tk)
    (hall : (backToKw pos (keywordEach kws X.env)).all (·.1.isSome) = true := by rfl) (hks : (backToKw pos (keywordEach kws X.env)).filterMap (·.1) = ps := by rfl)
    (hdb : (x == ("__debug__" : Str)) = false := by decide)
    (hpl : ((backTo pos (starEach [] X.env)).any (·.1) || (backToKw pos (keywordEach kws X.env)).any (·.1.isNone)) = false := by rfl) :
    PE X (.Call (.Name x p) [] kws pos) (tCallN0 ps.length sp (fun vs zs => vs ++ zs) E0 tk) := by
  obtain ⟨f, fd, F, hm, kp, _, b⟩ := c.ex
  exact pe_callN0 F (hr.mono hk) hg hm kp b pass0 hkw hall hks hdb hpl
theorem pe_mkC (c : Mkr X.prog X.w X.K X.mg X.base k x C ps sp) (hr : Room j X.A) (hk : k + 1 ≤ j) (hg : Gl X x) (ha : PA X (e :: es) t)
    (hdb : (x == ("__debug__" : Str)) = false := by decide) (he : starEach (e :: es) X.env = (false, eval e X.env) :: starEach es X.env := by rfl) (hpl : (backTo pos (starEach es X.env)).any (·.1) = false := by rfl) :
    PE X (.Call (.Name x p) (e :: es) [] pos) (tMake C sp [] E0 t) := by
  obtain ⟨f, fd, M, F, hm, b, _⟩ := c.ex
  exact pe_make M F (hr.mono hk) hg hm b .nil pass0 ha hdb he hpl
theorem pe_mkK (c : Mkr X.prog X.w X.K X.mg X.base k x C ps sp) (hr : Room j X.A) (hk : k + 1 ≤ j) (hg : Gl X x) (hkw : PK X kws tk)
    (hall : (backToKw pos (keywordEach kws X.env)).all (·.1.isSome) = true := by rfl) (hks : (backToKw pos (keywordEach kws X.env)).filterMap (·.1) = ps.tail := by rfl)
    (hdb : (x == ("__debug__" : Str)) = false := by decide)
    (hpl : ((backTo pos (starEach [] X.env)).any (·.1) || (backToKw pos (keywordEach kws X.env)).any (·.1.isNone)) = false := by rfl) :
    PE X (.Call (.Name x p) [] kws pos) (tMakeK C 0 ps.tail.length sp (fun vs zs => vs ++ zs) E0 tNil tk) := by
  obtain ⟨f, fd, M, F, hm, _, b⟩ := c.ex
  exact pe_makeK0 M F (hr.mono hk) hg hm b pass0 hkw hall hks hdb hpl
theorem pe_mtd {pl : Sem Bool} (c : Mt X.prog X.w X.K X.mg X.base k C m ps sp) (hr : Room j X.A) (hk : k ≤ j) (he : PE X o ta) (ha : PA X (e :: es) t)
    (hst : starEach (e :: es) X.env = (false, eval e X.env) :: starEach es X.env := by rfl) (hpl : (backTo pos (starEach es X.env)).any (·.1) = false := by rfl)
    (ht : eval (.Call (.Attribute o m apos) (e :: es) [] pos) X.env = (do
      let ov ← eval o X.env
      standAt apos.atName
      let (f, first) ← holding [ov] (getMethod ov m pl)
      callWith pos f first (backTo pos (starEach (e :: es) X.env)) (backToKw pos (keywordEach [] X.env))) := by rfl) :
    PE X (.Call (.Attribute o m apos) (e :: es) [] pos) (tMeth C m sp [] E0 ta t) := by
  obtain ⟨f, fd, hc, hm, F, b, _⟩ := c.ex
  exact pe_meth (pl := pl) he hc hm F (hr.mono hk) b .nil pass0 ha hst hpl ht
theorem pe_mtd0 {pl : Sem Bool} (c : Mt X.prog X.w X.K X.mg X.base k C m ps sp) (hr : Room j X.A) (hk : k ≤ j) (he : PE X o ta)
    (ht : eval (.Call (.Attribute o m apos) [] [] pos) X.env = (do
      let ov ← eval o X.env
      standAt apos.atName
      let (f, first) ← holding [ov] (getMethod ov m pl)
      callWith pos f first (backTo pos (starEach [] X.env)) (backToKw pos (keywordEach [] X.env))) := by rfl) :
    PE X (.Call (.Attribute o m apos) [] [] pos) (tMeth C m sp [] E0 ta tNil) := by
  obtain ⟨f, fd, hc, hm, F, b, _⟩ := c.ex
  exact pe_meth0 (pl := pl) he hc hm F (hr.mono hk) b .nil pass0 ht
theorem pe_mtK {pl : Sem Bool} (c : Mt X.prog X.w X.K X.mg X.base k C m ps sp) (hr : Room j X.A) (hk : k ≤ j) (he : PE X o ta) (hkw : PK X kws tk)
    (hall : (backToKw pos (keywordEach kws X.env)).all (·.1.isSome) = true := by rfl) (hks : (backToKw pos (keywordEach kws X.env)).filterMap (·.1) = ps.tail := by rfl)
    (hpl : ((backTo pos (starEach [] X.env)).any (·.1) || (backToKw pos (keywordEach kws X.env)).any (·.1.isNone)) = false := by rfl)
    (ht : eval (.Call (.Attribute o m apos) [] kws pos) X.env = (do
      let ov ← eval o X.env
      standAt apos.atName
      let (f, first) ← holding [ov] (getMethod ov m pl)
      callWith pos f first (backTo pos (starEach [] X.env)) (backToKw pos (keywordEach kws X.env))) := by rfl) :
    PE X (.Call (.Attribute o m apos) [] kws pos) (tMethN C m ps.tail.length sp (fun vs zs => vs ++ zs) E0 ta tk) := by
  obtain ⟨f, fd, hc, hm, F, _, b⟩ := c.ex
  exact pe_methN (pl := pl) he hc hm F (hr.mono hk) b pass0 hkw hall hks hpl ht
theorem pe_pr (c : Prp X.prog X.w X.K X.mg X.base k C m sp) (hr : Room j X.A) (hk : k + 1 ≤ j) (he : PE X e ta) (hab : attributeBase e m X.env (eval e X.env) = eval e X.env := by rfl) :
    PE X (.Attribute e m pos) (tProp C sp [] E0 ta) := by
  obtain ⟨p, g, fd, hc, hp, F, b⟩ := c.ex
  exact pe_prop he hc hp F (hr.mono hk) b .nil pass0 hab
end

end Dh

namespace Dh
open PySem PySem.Spec PyProof.Rows L2

/-! ### promises by the number of arguments -/
abbrev Kont := Hp → VK → Prop
def Sp1 (p : V → Kont) : Sp := fun vs H Q _ => ∃ a, vs = [a] ∧ p a H Q
def Sp2 (p : V → V → Kont) : Sp := fun vs H Q _ => ∃ a b, vs = [a, b] ∧ p a b H Q
def Sp3 (p : V → V → V → Kont) : Sp := fun vs H Q _ => ∃ a b c, vs = [a, b, c] ∧ p a b c H Q
def Sp4 (p : V → V → V → V → Kont) : Sp := fun vs H Q _ => ∃ a b c d, vs = [a, b, c, d] ∧ p a b c d H Q
theorem len1 {p vs H Q E} (h : Sp1 p vs H Q E) : vs.length = 1 := by obtain ⟨_, rfl, _⟩ := h; rfl
theorem len2 {p vs H Q E} (h : Sp2 p vs H Q E) : vs.length = 2 := by obtain ⟨_, _, rfl, _⟩ := h; rfl
theorem len3 {p vs H Q E} (h : Sp3 p vs H Q E) : vs.length = 3 := by obtain ⟨_, _, _, rfl, _⟩ := h; rfl
theorem len4 {p vs H Q E} (h : Sp4 p vs H Q E) : vs.length = 4 := by obtain ⟨_, _, _, _, rfl, _⟩ := h; rfl

/-! ### how a heap goes on: all but ps is kept, tuples always -/
structure Md (ps : List Addr) (H H' : Hp) : Prop where
  k : ∀ a o, a ∉ ps → H a = some o → H' a = some o
  t : ∀ a xs, H a = some (.tup xs) → H' a = some (.tup xs)
  f : ∀ a o xs, H a = some (.frz o (.tup xs)) → H' a = some (.frz o (.tup xs))
section
variable {ps qs : List Addr} {H H1 H2 : Hp} {a p : Addr} {o u : HO} {K : PySem.W.Frag} {xs : List V}
theorem Md.refl : Md ps H H := ⟨fun _ _ _ h => h, fun _ _ h => h, fun _ _ _ h => h⟩
theorem Md.trans (x : Md ps H H1) (y : Md ps H1 H2) : Md ps H H2 := ⟨fun a o n h => y.k a o n (x.k a o n h), fun a o h => y.t a o (x.t a o h), fun a o s h => y.f a o s (x.f a o s h)⟩
theorem Md.up (x : Md ps H H1) (h : ∀ a ∈ ps, a ∈ qs) : Md qs H H1 := ⟨fun a o n e => x.k a o (fun z => n (h a z)) e, x.t, x.f⟩
theorem Md.up0 (x : Md [] H H1) : Md ps H H1 := x.up fun _ z => nomatch z
/-- places that were not there do not count -/
theorem Md.drop (x : Md (p :: ps) H H1) (h : H p = none) : Md ps H H1 := ⟨fun a o n e => x.k a o (fun z => by
  rcases List.mem_cons.mp z with z | z
  · rw [z, h] at e; cases e
  · exact n z) e, x.t, x.f⟩
theorem Md.new (h : H p = none) : Md ps H (upd H p o) := ⟨fun a u _ e => by rw [upd_ne (ne_of_none e h)]; exact e, fun a u e => by rw [upd_ne (ne_of_none e h)]; exact e, fun a u s e => by rw [upd_ne (ne_of_none e h)]; exact e⟩
theorem Md.mut (h : H p = some u) (m : Mut (some u)) : Md [p] H (upd H p o) := by
  refine ⟨fun a v n e => ?_, fun a v e => ?_, fun a v s e => ?_⟩
  · rw [upd_ne (by simpa using n)]; exact e
  · rw [upd_ne (ne_of e h (fun z => by rw [← z] at m; exact m))]; exact e
  · rw [upd_ne (ne_of e h (fun z => by rw [← z] at m; exact m))]; exact e
theorem Md.get (x : Md ps H H1) (h : H a = some o) (n : a ∉ ps) : H1 a = some o := x.k a o n h
theorem Md.get0 (x : Md [] H H1) (h : H a = some o) : H1 a = some o := x.k a o (fun z => nomatch z) h
theorem Md.get1 (x : Md [p] H H1) (h : H a = some o) (n : a ≠ p) : H1 a = some o := x.k a o (by simpa using n) h
theorem Md.free (x : Md ps H H1) (h : H1 p = none) (n : p ∉ ps) : H p = none := by
  cases q : H p with
  | none => rfl
  | some o => rw [x.k p o n q] at h; cases h
theorem Md.free0 (x : Md [] H H1) (h : H1 p = none) : H p = none := x.free h fun z => nomatch z
theorem Md.sqt (x : Md ps H H1) (h : SqT K H a xs) : SqT K H1 a xs := by
  rcases h with (h | ⟨o, h⟩) | h
  · exact .inl (.inl (x.t _ _ h))
  · exact .inl (.inr ⟨o, x.f _ _ _ h⟩)
  · exact .inr h
theorem Md.sql0 (x : Md [] H H1) (h : SqL K H a xs) : SqL K H1 a xs := by
  rcases h with (h | ⟨o, h⟩) | h
  · exact .inl (.inl (x.get0 h))
  · exact .inl (.inr ⟨o, x.get0 h⟩)
  · exact .inr h
end

/-! ### data of tuples, texts, ints: what never changes -/
mutual
inductive D (K : PySem.W.Frag) (H : Hp) : V → PyData → Prop
  | non : D K H .non .none
  | bl (b : Bool) : D K H (.bl b) (.bool b)
  | int (i : Int) : D K H (.int i) (.int i)
  | str (x : Str) : D K H (.str x) (.str x)
  | tup {a : Addr} {xs : List V} {ds : List PyData} : SqT K H a xs → DA K H xs ds → D K H (.ref a) (.tuple ds)
inductive DA (K : PySem.W.Frag) (H : Hp) : List V → List PyData → Prop
  | nil : DA K H [] []
  | cons {v : V} {vs : List V} {d : PyData} {ds : List PyData} : D K H v d → DA K H vs ds → DA K H (v :: vs) (d :: ds)
end
section
variable {K : PySem.W.Frag} {H H1 : Hp} {ps : List Addr}
mutual
theorem D.dp : ∀ {v : V} {d : PyData}, D K H v d → Dp K H v d
  | _, _, .non => .non
  | _, _, .bl b => .bl b
  | _, _, .int i => .int i
  | _, _, .str x => .str x
  | _, _, .tup h t => .tup h (DA.dp t)
theorem DA.dp : ∀ {vs : List V} {ds : List PyData}, DA K H vs ds → DpAll K H vs ds
  | _, _, .nil => .nil
  | _, _, .cons h t => .cons (D.dp h) (DA.dp t)
end
mutual
theorem D.md (m : Md ps H H1) : ∀ {v : V} {d : PyData}, D K H v d → D K H1 v d
  | _, _, .non => .non
  | _, _, .bl b => .bl b
  | _, _, .int i => .int i
  | _, _, .str x => .str x
  | _, _, .tup h t => .tup (m.sqt h) (DA.md m t)
theorem DA.md (m : Md ps H H1) : ∀ {vs : List V} {ds : List PyData}, DA K H vs ds → DA K H1 vs ds
  | _, _, .nil => .nil
  | _, _, .cons h t => .cons (D.md m h) (DA.md m t)
end
theorem D.int_inv {v : V} {i : Int} (h : D K H v (.int i)) : v = .int i := by cases h; rfl
theorem D.str_inv {v : V} {i : Str} (h : D K H v (.str i)) : v = .str i := by cases h; rfl
theorem D.bl_inv {v : V} {i : Bool} (h : D K H v (.bool i)) : v = .bl i := by cases h; rfl
theorem D.tup_inv {v : V} {ds : List PyData} (h : D K H v (.tuple ds)) : ∃ a xs, v = .ref a ∧ SqT K H a xs ∧ DA K H xs ds := by
  cases h with
  | tup h t => exact ⟨_, _, rfl, h, t⟩
theorem DA.len : ∀ {vs : List V} {ds : List PyData}, DA K H vs ds → vs.length = ds.length
  | _, _, .nil => rfl
  | _, _, .cons _ t => congrArg Nat.succ (DA.len t)
theorem DA.get : ∀ {vs : List V} {ds : List PyData} {i : Nat} {d : PyData}, DA K H vs ds → ds[i]? = some d → ∃ v, vs[i]? = some v ∧ D K H v d
  | _, _, _, _, .nil, e => by simp at e
  | _, _, 0, _, .cons h _, e => by simp at e; subst e; exact ⟨_, rfl, h⟩
  | _, _, i + 1, _, .cons _ t, e => DA.get (i := i) t (by simpa using e)
theorem DA.get' : ∀ {vs : List V} {ds : List PyData} {i : Nat} {v : V}, DA K H vs ds → vs[i]? = some v → ∃ d, ds[i]? = some d ∧ D K H v d
  | _, _, _, _, .nil, e => by simp at e
  | _, _, 0, _, .cons h _, e => by simp at e; subst e; exact ⟨_, rfl, h⟩
  | _, _, i + 1, _, .cons _ t, e => DA.get' (i := i) t (by simpa using e)
theorem DA.append : ∀ {vs ws : List V} {ds es : List PyData}, DA K H vs ds → DA K H ws es → DA K H (vs ++ ws) (ds ++ es)
  | _, _, _, _, .nil, s => s
  | _, _, _, _, .cons h t, s => .cons h (DA.append t s)
theorem DA.take : ∀ {vs : List V} {ds : List PyData} (n : Nat), DA K H vs ds → DA K H (vs.take n) (ds.take n)
  | _, _, 0, _ => .nil
  | _, _, _ + 1, .nil => .nil
  | _, _, n + 1, .cons h t => .cons h (DA.take n t)
theorem DA.drop : ∀ {vs : List V} {ds : List PyData} (n : Nat), DA K H vs ds → DA K H (vs.drop n) (ds.drop n)
  | _, _, 0, h => h
  | _, _, _ + 1, .nil => .nil
  | _, _, n + 1, .cons _ t => DA.drop n t
theorem DA.ints : ∀ (l : List Int), DA K H (l.map V.int) (l.map PyData.int)
  | [] => .nil
  | i :: l => .cons (.int i) (DA.ints l)
theorem DA.ints_inv : ∀ {vs : List V} {l : List Int}, DA K H vs (l.map PyData.int) → vs = l.map V.int
  | vs, [], h => by cases h; rfl
  | vs, i :: l, h => by
    cases h with
    | cons h t => rw [D.int_inv h, DA.ints_inv t]; rfl
end

/-! ### plain data: == is equality -/
mutual
def plainD : PyData → Bool
  | .int _ => true
  | .str x => PyData.canLay0 (.str x)
  | .tuple xs => plainA xs
  | _ => false
def plainA : List PyData → Bool
  | [] => true
  | x :: xs => plainD x && plainA xs
end
mutual
theorem plain_lay : ∀ d : PyData, plainD d = true → PyData.canLay0 d = true
  | .int _, _ => rfl
  | .str x, h => h
  | .tuple xs, h => by
    have h' : plainA xs = true := by simpa [plainD] using h
    simpa [PyData.canLay0] using plainA_lay xs h'
  | .none, h => by simp [plainD] at h
  | .bool _, h => by simp [plainD] at h
  | .list _, h => by simp [plainD] at h
  | .dict _, h => by simp [plainD] at h
theorem plainA_lay : ∀ ds : List PyData, plainA ds = true → PyData.canLayAll0 ds = true
  | [], _ => rfl
  | d :: ds, h => by
    have h' : plainD d = true ∧ plainA ds = true := by simpa [plainA] using h
    simp [PyData.canLayAll0, plain_lay d h'.1, plainA_lay ds h'.2]
end
mutual
theorem plain_eqv : ∀ d e : PyData, plainD d = true → plainD e = true → PyData.eqv d e = true → d = e
  | .int i, .int j, _, _, h => by simp [PyData.eqv] at h; rw [h]
  | .str i, .str j, _, _, h => by simp [PyData.eqv] at h; rw [h]
  | .tuple xs, .tuple ys, h1, h2, h => by
    rw [plainA_eqv xs ys (by simpa [plainD] using h1) (by simpa [plainD] using h2) (by simpa [PyData.eqv] using h)]
  | .int i, .str j, _, _, h => by simp [PyData.eqv] at h
  | .int i, .tuple j, _, _, h => by simp [PyData.eqv] at h
  | .str i, .int j, _, _, h => by simp [PyData.eqv] at h
  | .str i, .tuple j, _, _, h => by simp [PyData.eqv] at h
  | .tuple i, .int j, _, _, h => by simp [PyData.eqv] at h
  | .tuple i, .str j, _, _, h => by simp [PyData.eqv] at h
  | .none, _, h, _, _ => by simp [plainD] at h
  | .bool _, _, h, _, _ => by simp [plainD] at h
  | .list _, _, h, _, _ => by simp [plainD] at h
  | .dict _, _, h, _, _ => by simp [plainD] at h
  | _, .none, _, h, _ => by simp [plainD] at h
  | _, .bool _, _, h, _ => by simp [plainD] at h
  | _, .list _, _, h, _ => by simp [plainD] at h
  | _, .dict _, _, h, _ => by simp [plainD] at h
theorem plainA_eqv : ∀ d e : List PyData, plainA d = true → plainA e = true → PyData.eqvAll d e = true → d = e
  | [], [], _, _, _ => rfl
  | x :: xs, y :: ys, h1, h2, h => by
    have a : plainD x = true ∧ plainA xs = true := by simpa [plainA] using h1
    have b : plainD y = true ∧ plainA ys = true := by simpa [plainA] using h2
    have c : PyData.eqv x y = true ∧ PyData.eqvAll xs ys = true := by simpa [PyData.eqvAll] using h
    rw [plain_eqv x y a.1 b.1 c.1, plainA_eqv xs ys a.2 b.2 c.2]
  | [], _ :: _, _, _, h => by simp [PyData.eqvAll] at h
  | _ :: _, [], _, _, h => by simp [PyData.eqvAll] at h
end
theorem plain_iff {d e : PyData} (h1 : plainD d = true) (h2 : plainD e = true) : PyData.eqv d e = true ↔ d = e :=
  ⟨plain_eqv d e h1 h2, fun z => by rw [z]; exact SeqAt.eqv_refl e (plain_lay e h2)⟩
/-- flat enough: depth at most 8 -/
def okD (d : PyData) : Prop := plainD d = true ∧ d.depth ≤ 64
theorem okD.shaped {d : PyData} (h : okD d) : SeqAt.shaped d = true := by
  show (d.canLay0 && decide (d.depth ≤ 64)) = true
  rw [Bool.and_eq_true]
  exact ⟨plain_lay d h.1, decide_eq_true h.2⟩
/-- == of data -/
theorem rd_eq {K : PySem.W.Frag} {x y : V} {H : Hp} {Q : VK} {d e : PyData} (h1 : D K H x d) (h2 : D K H y e) (o1 : okD d) (o2 : okD e) (q : ∀ b : Bool, (b = true ↔ d = e) → Q (.bl b) H) : rEqD K x y H Q :=
  ⟨d, e, h1.dp, h2.dp, o1.shaped, o2.shaped, q _ (plain_iff o1.1 o2.1)⟩
theorem rd_ne {K : PySem.W.Frag} {x y : V} {H : Hp} {Q : VK} {d e : PyData} (h1 : D K H x d) (h2 : D K H y e) (o1 : okD d) (o2 : okD e) (q : ∀ b : Bool, (b = true ↔ d ≠ e) → Q (.bl b) H) : rNeD K x y H Q := by
  refine ⟨d, e, h1.dp, h2.dp, o1.shaped, o2.shaped, q _ ?_⟩
  have h := plain_iff o1.1 o2.1
  cases hb : PyData.eqv d e
  · simp [hb] at h; simpa using h
  · simp [hb] at h; simpa using h

/-! ### tests -/
theorem rd_if {b : Bool} {c : Prop} {A B : Prop} (hb : b = true ↔ c) (h1 : c → A) (h2 : ¬ c → B) : if b = true then A else B := by
  by_cases h : b = true
  · rw [if_pos h]; exact h1 (hb.mp h)
  · rw [if_neg h]; exact h2 fun z => h (hb.mpr z)
theorem rd_ifd {c : Prop} [Decidable c] {A B : Prop} (h1 : c → A) (h2 : ¬ c → B) : if decide c = true then A else B := rd_if (by simp) h1 h2
theorem rd_ifn {c : Prop} [Decidable c] {A B : Prop} (h1 : ¬ c → A) (h2 : c → B) : if (!decide c) = true then A else B := by
  by_cases h : c
  · simp only [h]; simpa using h2 h
  · simp only [h]; simpa using h1 h

theorem map_int_get {l : List Int} {i : Nat} {x : V} (h : (l.map V.int)[i]? = some x) : ∃ j, x = .int j ∧ l[i]? = some j := by
  rw [List.getElem?_map] at h
  cases e : l[i]? with
  | none => rw [e] at h; cases h
  | some j => rw [e] at h; exact ⟨j, (Option.some.inj h).symm, rfl⟩
theorem ints_lay : ∀ l : List Int, PyData.canLayAll0 (l.map PyData.int) = true
  | [] => rfl
  | i :: l => by simpa [PyData.canLayAll0, PyData.canLay0] using ints_lay l
theorem ints_depth : ∀ l : List Int, PyData.depthAll (l.map PyData.int) = 0
  | [] => rfl
  | i :: l => by simpa [PyData.depthAll, PyData.depth] using ints_depth l
theorem ints_plain : ∀ l : List Int, plainA (l.map PyData.int) = true
  | [] => rfl
  | i :: l => by simpa [plainA, plainD] using ints_plain l
theorem listInts_shaped (l : List Int) : SeqAt.shaped (.list (l.map PyData.int)) = true := by
  show (PyData.canLay0 (.list (l.map PyData.int)) && decide (PyData.depth (.list (l.map PyData.int)) ≤ 64)) = true
  rw [Bool.and_eq_true]
  exact ⟨by simpa [PyData.canLay0] using ints_lay l, decide_eq_true (by simp only [PyData.depth, ints_depth]; omega)⟩
theorem dpAll_ints {K : PySem.W.Frag} {H : Hp} (l : List Int) : DpAll K H (l.map V.int) (l.map PyData.int) := (DA.ints l).dp
/-- two lists of the same ints are equal -/
theorem rd_eqL {K : PySem.W.Frag} {a b : Addr} {H : Hp} {Q : VK} {l : List Int} (h1 : SqL K H a (l.map V.int)) (h2 : SqL K H b (l.map V.int)) (q : Q (.bl true) H) : rEqD K (.ref a) (.ref b) H Q := by
  refine ⟨_, _, .lst h1 (dpAll_ints l), .lst h2 (dpAll_ints l), listInts_shaped l, listInts_shaped l, ?_⟩
  rw [SeqAt.eqv_refl _ (by simpa [PyData.canLay0] using ints_lay l)]
  exact q
theorem flat1 {α : Type} (x : α) : ∀ n : Nat, (List.replicate n [x]).flatten = List.replicate n x
  | 0 => rfl
  | n + 1 => by rw [List.replicate_succ, List.replicate_succ, List.flatten_cons, flat1 x n]; rfl

/-! ### slices of tuples -/
section
variable {K : PySem.W.Frag} {H : Hp} {v : V} {ds : List PyData} {Q : VK}
theorem rd_sl {lo hi : Option Int} (h : D K H v (.tuple ds)) (q : ∀ v' H', Md [] H H' → D K H' v' (.tuple ((ds.drop (HT.sIx ds.length 0 lo)).take (HT.sIx ds.length ds.length hi - HT.sIx ds.length 0 lo))) → Q v' H') : rSlA K v lo hi H Q := by
  obtain ⟨a, xs, rfl, hs, ha⟩ := h.tup_inv
  have hl := ha.len
  refine ⟨a, xs, rfl, hs, fun hw => ?_, fun _ p np => ?_⟩
  · refine q _ _ .refl ?_
    rw [hl] at hw
    rw [hw.1, hw.2, List.drop_zero, Nat.sub_zero, List.take_length]
    exact h
  · refine q _ _ (Md.new np) (.tup (SqT.of upd_same) ?_)
    rw [← hl]
    exact ((ha.drop _).take _).md (Md.new (ps := []) np)
theorem rd_slTo {n : Nat} (h : D K H v (.tuple ds)) (q : ∀ v' H', Md [] H H' → D K H' v' (.tuple (ds.take n)) → Q v' H') : rSlA K v none (some (n : Int)) H Q := rd_sl h fun v' H' m d => q v' H' m (by
  rw [HT.sIx_none, HT.sIx_nat, List.drop_zero, Nat.sub_zero] at d
  rw [List.take_eq_take_min]; exact d)
theorem rd_slFrom {n : Nat} (h : D K H v (.tuple ds)) (q : ∀ v' H', Md [] H H' → D K H' v' (.tuple (ds.drop n)) → Q v' H') : rSlA K v (some (n : Int)) none H Q := rd_sl h fun v' H' m d => q v' H' m (by
  rw [HT.sIx_none, HT.sIx_nat] at d
  have e : (ds.drop (min n ds.length)).take (ds.length - min n ds.length) = ds.drop n := by
    by_cases hn : n ≤ ds.length
    · rw [Nat.min_eq_left hn, List.take_of_length_le (by rw [List.length_drop]; omega)]
    · rw [Nat.min_eq_right (by omega), List.drop_length, List.take_nil, List.drop_eq_nil_of_le (by omega)]
  rw [e] at d
  exact d)
end

/-! ### comprehensions whose tests and elements leave all as it is -/
section
variable {K : PySem.W.Frag} {a : Addr} {xs : List V} {g : TG} {tt : TT} {te : TE} {vs : List Nat} {σ : L2.St} {H1 : Hp} {Qd : Addr → Hp → Prop}
/-- what the comprehension holds: the n-th item x gives f n x -/
def fmI (f : Nat → V → Option V) : Nat → List V → List V
  | _, [] => []
  | n, x :: xs => (f n x).toList ++ fmI f (n + 1) xs
theorem fmI_take {f : Nat → V → Option V} : ∀ {xs : List V} {n i : Nat} {x : V}, xs[i]? = some x → fmI f n (xs.take (i + 1)) = fmI f n (xs.take i) ++ (f (n + i) x).toList
  | [], _, _, _, h => by simp at h
  | y :: xs, n, 0, x, h => by simp at h; subst h; simp [fmI]
  | y :: xs, n, i + 1, x, h => by
    have h' : xs[i]? = some x := by simpa using h
    have e := fmI_take (f := f) (n := n + 1) h'
    show (f n y).toList ++ fmI f (n + 1) (xs.take (i + 1)) = ((f n y).toList ++ fmI f (n + 1) (xs.take i)) ++ _
    rw [e, List.append_assoc, show n + 1 + i = n + (i + 1) by omega]
theorem fmI_len (f : Nat → V → Option V) : ∀ (n : Nat) (xs : List V), (fmI f n xs).length ≤ xs.length
  | _, [] => Nat.le_refl _
  | n, x :: xs => by
    have h := fmI_len f (n + 1) xs
    have h2 : (f n x).toList.length ≤ 1 := by cases f n x <;> simp
    show ((f n x).toList ++ fmI f (n + 1) xs).length ≤ xs.length + 1
    rw [List.length_append]; omega
def kept (f : Nat → V → Option V) (xs : List V) (i : Nat) : List V := fmI f 0 (xs.take i)
theorem kept_succ {f : Nat → V → Option V} {xs : List V} {i : Nat} {x : V} (h : xs[i]? = some x) : kept f xs (i + 1) = kept f xs i ++ (f i x).toList := by
  unfold kept
  rw [fmI_take h, Nat.zero_add]
theorem kept_len (f : Nat → V → Option V) (xs : List V) (i : Nat) : (kept f xs i).length ≤ xs.length :=
  Nat.le_trans (fmI_len f _ _) (by rw [List.length_take]; omega)
theorem kept_all (f : Nat → V → Option V) (xs : List V) : kept f xs xs.length = fmI f 0 xs := by unfold kept; rw [List.take_length]
/-- each item gives one -/
theorem fmI_map {α : Type} {f : Nat → V → Option V} {g : α → V} : ∀ {xs : List V} {ds : List α} {n : Nat}, xs.length = ds.length → (∀ i x d, xs[i]? = some x → ds[i]? = some d → f (n + i) x = some (g d)) → fmI f n xs = ds.map g
  | [], [], _, _, _ => rfl
  | x :: xs, d :: ds, n, hl, h => by
    have h0 := h 0 x d rfl rfl
    show (f n x).toList ++ fmI f (n + 1) xs = _
    rw [show n = n + 0 from rfl, h0, fmI_map (ds := ds) (by simpa using hl) fun i x' d' e1 e2 => by
      rw [show n + 0 + 1 + i = n + (i + 1) by omega]
      exact h (i + 1) x' d' (by simpa using e1) (by simpa using e2)]
    rfl
  | [], _ :: _, _, h, _ => by simp at h
  | _ :: _, [], _, h, _ => by simp at h
theorem fmI_filter {f : Nat → V → Option V} {g : V → Option V} (h : ∀ n x, f n x = g x) : ∀ (n : Nat) (xs : List V), fmI f n xs = xs.filterMap g
  | _, [] => rfl
  | n, x :: xs => by
    show (f n x).toList ++ fmI f (n + 1) xs = _
    rw [fmI_filter h (n + 1) xs, h]
    cases e : g x <;> simp [e]
/-- the turn of a pure comprehension, for any iterator that gives the items of xs -/
def PureTurn (f : Nat → V → Option V) (xs : List V) (g : TG) (tt : TT) (te : TE) (vs : List Nat) (σ : L2.St) (H1 : Hp) : Prop :=
  ∀ (i : Nat) (x : V) (H : Hp) (R : Option V → Hp → Prop), xs[i]? = some x → Md [] H1 H → (∀ H', Md [] H H' → R (f i x) H') →
    g x (wipe σ vs) H fun σ2 H2 => wipe σ2 vs = wipe σ vs ∧ tt σ2 H2 fun b H3 => if b = true then te σ2 H3 fun y H4 => R (some y) H4 else R none H3
theorem lc_pureT (hs : SqT K H1 a xs) (hz : xs.length < sizeLine) (f : Nat → V → Option V)
    (turn : PureTurn f xs g tt te vs σ H1) (q : ∀ D H', H1 D = none → Md [] H1 H' → H' D = some (.lst (fmI f 0 xs)) → Qd D H') :
    ∀ D, H1 D = none → ∃ W : Nat → Nat → Hp → Prop, (∃ m, W 0 m (upd H1 D (.lst []))) ∧ ∀ i m H, W i m H →
      ((Itt K a).stop i H ∧ Qd D H) ∨ ((Itt K a).go i H ∧ ∃ Nx : Hp → Prop, (∀ H', Nx H' → ∃ m', m' < m ∧ W (i + 1) m' H') ∧ ∀ x H', (Itt K a).yld i H x H' → g x (wipe σ vs) H' fun σ2 H2 => wipe σ2 vs = wipe σ vs ∧ tt σ2 H2 fun b H3 =>
        if b = true then te σ2 H3 fun y H4 => ∃ acc, H4 D = some (.lst acc) ∧ acc.length < sizeLine ∧ Nx (upd H4 D (.lst (acc ++ [y]))) else Nx H3) := by
  intro D hD
  refine lc_tup (K := K) (a := a) (xs := xs) (fun i H => Md [] H1 H ∧ H D = some (.lst (kept f xs i))) ⟨Md.new hD, upd_same⟩ (fun i H _ h => h.1.sqt hs) ?_ (fun H h => q D H hD h.1 (by rw [← kept_all]; exact h.2))
  intro i x H hx ⟨hm, hd⟩
  have hl : (kept f xs i).length < sizeLine := Nat.lt_of_le_of_lt (kept_len f xs i) hz
  have fin : ∀ (r : Option V) (H' : Hp), Md [] H H' → r = f i x → (match r with
      | some y => ∃ acc, H' D = some (.lst acc) ∧ acc.length < sizeLine ∧ (Md [] H1 (upd H' D (.lst (acc ++ [y]))) ∧ upd H' D (.lst (acc ++ [y])) D = some (.lst (kept f xs (i + 1))))
      | none => Md [] H1 H' ∧ H' D = some (.lst (kept f xs (i + 1)))) := by
    intro r H' hm' e
    have hd' : H' D = some (.lst (kept f xs i)) := hm'.get0 hd
    cases r with
    | none => exact ⟨hm.trans hm', by rw [kept_succ hx, ← e]; simpa using hd'⟩
    | some y =>
      refine ⟨_, hd', hl, ?_, ?_⟩
      · exact Md.drop (((hm.trans hm').up0).trans (Md.mut hd' trivial)) hD
      · rw [upd_same, kept_succ hx, ← e]; rfl
  have t := turn i x H (fun r H' => match r with
      | some y => ∃ acc, H' D = some (.lst acc) ∧ acc.length < sizeLine ∧ (Md [] H1 (upd H' D (.lst (acc ++ [y]))) ∧ upd H' D (.lst (acc ++ [y])) D = some (.lst (kept f xs (i + 1))))
      | none => Md [] H1 H' ∧ H' D = some (.lst (kept f xs (i + 1)))) hx hm (fun H' hm' => fin _ H' hm' rfl)
  exact t
theorem lc_pureL (hs : SqL K H1 a xs) (hz : xs.length < sizeLine) (f : Nat → V → Option V)
    (turn : PureTurn f xs g tt te vs σ H1) (q : ∀ D H', H1 D = none → Md [] H1 H' → H' D = some (.lst (fmI f 0 xs)) → Qd D H') :
    ∀ D, H1 D = none → ∃ W : Nat → Nat → Hp → Prop, (∃ m, W 0 m (upd H1 D (.lst []))) ∧ ∀ i m H, W i m H →
      ((Itl K a).stop i H ∧ Qd D H) ∨ ((Itl K a).go i H ∧ ∃ Nx : Hp → Prop, (∀ H', Nx H' → ∃ m', m' < m ∧ W (i + 1) m' H') ∧ ∀ x H', (Itl K a).yld i H x H' → g x (wipe σ vs) H' fun σ2 H2 => wipe σ2 vs = wipe σ vs ∧ tt σ2 H2 fun b H3 =>
        if b = true then te σ2 H3 fun y H4 => ∃ acc, H4 D = some (.lst acc) ∧ acc.length < sizeLine ∧ Nx (upd H4 D (.lst (acc ++ [y]))) else Nx H3) := by
  intro D hD
  refine lc_list (K := K) (a := a) (xs := xs) (fun i H => Md [] H1 H ∧ H D = some (.lst (kept f xs i))) ⟨Md.new hD, upd_same⟩ (fun i H _ h => h.1.sql0 hs) ?_ (fun H h => q D H hD h.1 (by rw [← kept_all]; exact h.2))
  intro i x H hx ⟨hm, hd⟩
  have hl : (kept f xs i).length < sizeLine := Nat.lt_of_le_of_lt (kept_len f xs i) hz
  have fin : ∀ (r : Option V) (H' : Hp), Md [] H H' → r = f i x → (match r with
      | some y => ∃ acc, H' D = some (.lst acc) ∧ acc.length < sizeLine ∧ (Md [] H1 (upd H' D (.lst (acc ++ [y]))) ∧ upd H' D (.lst (acc ++ [y])) D = some (.lst (kept f xs (i + 1))))
      | none => Md [] H1 H' ∧ H' D = some (.lst (kept f xs (i + 1)))) := by
    intro r H' hm' e
    have hd' : H' D = some (.lst (kept f xs i)) := hm'.get0 hd
    cases r with
    | none => exact ⟨hm.trans hm', by rw [kept_succ hx, ← e]; simpa using hd'⟩
    | some y =>
      refine ⟨_, hd', hl, ?_, ?_⟩
      · exact Md.drop (((hm.trans hm').up0).trans (Md.mut hd' trivial)) hD
      · rw [upd_same, kept_succ hx, ← e]; rfl
  have t := turn i x H (fun r H' => match r with
      | some y => ∃ acc, H' D = some (.lst acc) ∧ acc.length < sizeLine ∧ (Md [] H1 (upd H' D (.lst (acc ++ [y]))) ∧ upd H' D (.lst (acc ++ [y])) D = some (.lst (kept f xs (i + 1))))
      | none => Md [] H1 H' ∧ H' D = some (.lst (kept f xs (i + 1)))) hx hm (fun H' hm' => fin _ H' hm' rfl)
  exact t
end

/-! ### rules that name the written part themselves (for a comprehension's block) -/
section
variable {X : Cx}
theorem ix_tupK (K : PySem.W.Frag) (h : X.K = K := by rfl) : IxR X (rIxT K) := h ▸ ix_tup
theorem ix_listK (K : PySem.W.Frag) (h : X.K = K := by rfl) : IxR X (rIxL K) := h ▸ ix_list
theorem op_eqDK (K : PySem.W.Frag) (hu : X.A.units + 64 < cLine) (h : X.K = K := by rfl) : OpR X (compareOp .Eq) (rEqD K) := h ▸ op_eqD hu
theorem op_neDK (K : PySem.W.Frag) (hu : X.A.units + 64 < cLine) (h : X.K = K := by rfl) : OpR X (compareOp .NotEq) (rNeD K) := h ▸ op_neD hu
theorem op_in_seqK (K : PySem.W.Frag) (h : X.K = K := by rfl) : OpR X (compareOp .In) (rIn K false) := h ▸ op_in_seq
theorem op_notIn_seqK (K : PySem.W.Frag) (h : X.K = K := by rfl) : OpR X (compareOp .NotIn) (rIn K true) := h ▸ op_notIn_seq
def rLenK (K : PySem.W.Frag) : List V → Hp → VK → Prop := fun xs H Q => ∃ p ys, xs = [.ref p] ∧ (SqL K H p ys ∨ SqT K H p ys) ∧ Q (.int ys.length) H
theorem call_lenK (K : PySem.W.Frag) (h : X.K = K := by rfl) : CallR X (.builtin "len") (rLenK K) := h ▸ call_len_seq
theorem call_isiK (K : PySem.W.Frag) (h : X.K = K := by rfl) : CallR X (.builtin "isinstance") (rIsi K) := h ▸ call_isi
theorem pe_fldK (K : PySem.W.Frag) {e : Expr} {f : Str} {pos : Pos} {ta : TE} (he : PE X e ta) (hb : attributeBase e f X.env (eval e X.env) = eval e X.env) (h : X.K = K := by rfl) : PE X (.Attribute e f pos) (tFld K ta f) := h ▸ pe_fld he hb
end
end Dh

namespace Dh
open PySem PySem.Spec PyProof.Rows L2

/-! ### the mirror: a wire -/
structure Wr where
  known : Nat
  got : List Int
  bit : Int
  waits : Int
  there : List (Int × Int)
  back : List Int
  deriving DecidableEq
/-- a letter, a row of letters, a row of ints as data -/
def letD (x : Int × Int) : PyData := .tuple [.int x.1, .int x.2]
def lettersD (l : List (Int × Int)) : PyData := .tuple (l.map letD)
def intsD (l : List Int) : PyData := .tuple (l.map PyData.int)

/-! ### the fields -/
theorem ne_0_1 : (("own_packets" : Str) = "own_room") = False := eq_false (by decide +kernel)
theorem ne_0_2 : (("own_packets" : Str) = "own_known") = False := eq_false (by decide +kernel)
theorem ne_0_3 : (("own_packets" : Str) = "own_got") = False := eq_false (by decide +kernel)
theorem ne_0_4 : (("own_packets" : Str) = "own_bit") = False := eq_false (by decide +kernel)
theorem ne_0_5 : (("own_packets" : Str) = "own_waits") = False := eq_false (by decide +kernel)
theorem ne_0_6 : (("own_packets" : Str) = "own_there") = False := eq_false (by decide +kernel)
theorem ne_0_7 : (("own_packets" : Str) = "own_back") = False := eq_false (by decide +kernel)
theorem ne_1_0 : (("own_room" : Str) = "own_packets") = False := eq_false (by decide +kernel)
theorem ne_1_2 : (("own_room" : Str) = "own_known") = False := eq_false (by decide +kernel)
theorem ne_1_3 : (("own_room" : Str) = "own_got") = False := eq_false (by decide +kernel)
theorem ne_1_4 : (("own_room" : Str) = "own_bit") = False := eq_false (by decide +kernel)
theorem ne_1_5 : (("own_room" : Str) = "own_waits") = False := eq_false (by decide +kernel)
theorem ne_1_6 : (("own_room" : Str) = "own_there") = False := eq_false (by decide +kernel)
theorem ne_1_7 : (("own_room" : Str) = "own_back") = False := eq_false (by decide +kernel)
theorem ne_2_0 : (("own_known" : Str) = "own_packets") = False := eq_false (by decide +kernel)
theorem ne_2_1 : (("own_known" : Str) = "own_room") = False := eq_false (by decide +kernel)
theorem ne_2_3 : (("own_known" : Str) = "own_got") = False := eq_false (by decide +kernel)
theorem ne_2_4 : (("own_known" : Str) = "own_bit") = False := eq_false (by decide +kernel)
theorem ne_2_5 : (("own_known" : Str) = "own_waits") = False := eq_false (by decide +kernel)
theorem ne_2_6 : (("own_known" : Str) = "own_there") = False := eq_false (by decide +kernel)
theorem ne_2_7 : (("own_known" : Str) = "own_back") = False := eq_false (by decide +kernel)
theorem ne_3_0 : (("own_got" : Str) = "own_packets") = False := eq_false (by decide +kernel)
theorem ne_3_1 : (("own_got" : Str) = "own_room") = False := eq_false (by decide +kernel)
theorem ne_3_2 : (("own_got" : Str) = "own_known") = False := eq_false (by decide +kernel)
theorem ne_3_4 : (("own_got" : Str) = "own_bit") = False := eq_false (by decide +kernel)
theorem ne_3_5 : (("own_got" : Str) = "own_waits") = False := eq_false (by decide +kernel)
theorem ne_3_6 : (("own_got" : Str) = "own_there") = False := eq_false (by decide +kernel)
theorem ne_3_7 : (("own_got" : Str) = "own_back") = False := eq_false (by decide +kernel)
theorem ne_4_0 : (("own_bit" : Str) = "own_packets") = False := eq_false (by decide +kernel)
theorem ne_4_1 : (("own_bit" : Str) = "own_room") = False := eq_false (by decide +kernel)
theorem ne_4_2 : (("own_bit" : Str) = "own_known") = False := eq_false (by decide +kernel)
theorem ne_4_3 : (("own_bit" : Str) = "own_got") = False := eq_false (by decide +kernel)
theorem ne_4_5 : (("own_bit" : Str) = "own_waits") = False := eq_false (by decide +kernel)
theorem ne_4_6 : (("own_bit" : Str) = "own_there") = False := eq_false (by decide +kernel)
theorem ne_4_7 : (("own_bit" : Str) = "own_back") = False := eq_false (by decide +kernel)
theorem ne_5_0 : (("own_waits" : Str) = "own_packets") = False := eq_false (by decide +kernel)
theorem ne_5_1 : (("own_waits" : Str) = "own_room") = False := eq_false (by decide +kernel)
theorem ne_5_2 : (("own_waits" : Str) = "own_known") = False := eq_false (by decide +kernel)
theorem ne_5_3 : (("own_waits" : Str) = "own_got") = False := eq_false (by decide +kernel)
theorem ne_5_4 : (("own_waits" : Str) = "own_bit") = False := eq_false (by decide +kernel)
theorem ne_5_6 : (("own_waits" : Str) = "own_there") = False := eq_false (by decide +kernel)
theorem ne_5_7 : (("own_waits" : Str) = "own_back") = False := eq_false (by decide +kernel)
theorem ne_6_0 : (("own_there" : Str) = "own_packets") = False := eq_false (by decide +kernel)
theorem ne_6_1 : (("own_there" : Str) = "own_room") = False := eq_false (by decide +kernel)
theorem ne_6_2 : (("own_there" : Str) = "own_known") = False := eq_false (by decide +kernel)
theorem ne_6_3 : (("own_there" : Str) = "own_got") = False := eq_false (by decide +kernel)
theorem ne_6_4 : (("own_there" : Str) = "own_bit") = False := eq_false (by decide +kernel)
theorem ne_6_5 : (("own_there" : Str) = "own_waits") = False := eq_false (by decide +kernel)
theorem ne_6_7 : (("own_there" : Str) = "own_back") = False := eq_false (by decide +kernel)
theorem ne_7_0 : (("own_back" : Str) = "own_packets") = False := eq_false (by decide +kernel)
theorem ne_7_1 : (("own_back" : Str) = "own_room") = False := eq_false (by decide +kernel)
theorem ne_7_2 : (("own_back" : Str) = "own_known") = False := eq_false (by decide +kernel)
theorem ne_7_3 : (("own_back" : Str) = "own_got") = False := eq_false (by decide +kernel)
theorem ne_7_4 : (("own_back" : Str) = "own_bit") = False := eq_false (by decide +kernel)
theorem ne_7_5 : (("own_back" : Str) = "own_waits") = False := eq_false (by decide +kernel)
theorem ne_7_6 : (("own_back" : Str) = "own_there") = False := eq_false (by decide +kernel)
def wfs (vP : V) (r : Int) (k : Int) (vG : V) (b w : Int) (vT vB : V) : List (Str × V) :=
  [("own_packets", vP), ("own_room", .int r), ("own_known", .int k), ("own_got", vG), ("own_bit", .int b), ("own_waits", .int w), ("own_there", vT), ("own_back", vB)]
section
variable {vP vG vT vB v : V} {r k b w i : Int}
theorem lk_cons {f g : Str} {x : V} {l : List (Str × V)} : List.lookup f ((g, x) :: l) = if f = g then some x else l.lookup f := by
  rw [List.lookup_cons]
  by_cases h : f = g
  · rw [if_pos h, beq_iff_eq.mpr h]
  · rw [if_neg h, beq_eq_false_iff_ne.mpr h]
theorem pt_cons {f g : Str} {x v : V} {l : List (Str × V)} : putF f v ((g, x) :: l) = if g = f then (g, v) :: l else (g, x) :: putF f v l := rfl
theorem lk_own_packets : (wfs vP r k vG b w vT vB).lookup ("own_packets" : Str) = some vP := by unfold wfs; simp only [lk_cons, ne_0_1, ne_0_2, ne_0_3, ne_0_4, ne_0_5, ne_0_6, ne_0_7, if_true, if_false]
theorem lk_own_room : (wfs vP r k vG b w vT vB).lookup ("own_room" : Str) = some (.int r) := by unfold wfs; simp only [lk_cons, ne_1_0, ne_1_2, ne_1_3, ne_1_4, ne_1_5, ne_1_6, ne_1_7, if_true, if_false]
theorem lk_own_known : (wfs vP r k vG b w vT vB).lookup ("own_known" : Str) = some (.int k) := by unfold wfs; simp only [lk_cons, ne_2_0, ne_2_1, ne_2_3, ne_2_4, ne_2_5, ne_2_6, ne_2_7, if_true, if_false]
theorem lk_own_got : (wfs vP r k vG b w vT vB).lookup ("own_got" : Str) = some vG := by unfold wfs; simp only [lk_cons, ne_3_0, ne_3_1, ne_3_2, ne_3_4, ne_3_5, ne_3_6, ne_3_7, if_true, if_false]
theorem lk_own_bit : (wfs vP r k vG b w vT vB).lookup ("own_bit" : Str) = some (.int b) := by unfold wfs; simp only [lk_cons, ne_4_0, ne_4_1, ne_4_2, ne_4_3, ne_4_5, ne_4_6, ne_4_7, if_true, if_false]
theorem lk_own_waits : (wfs vP r k vG b w vT vB).lookup ("own_waits" : Str) = some (.int w) := by unfold wfs; simp only [lk_cons, ne_5_0, ne_5_1, ne_5_2, ne_5_3, ne_5_4, ne_5_6, ne_5_7, if_true, if_false]
theorem lk_own_there : (wfs vP r k vG b w vT vB).lookup ("own_there" : Str) = some vT := by unfold wfs; simp only [lk_cons, ne_6_0, ne_6_1, ne_6_2, ne_6_3, ne_6_4, ne_6_5, ne_6_7, if_true, if_false]
theorem lk_own_back : (wfs vP r k vG b w vT vB).lookup ("own_back" : Str) = some vB := by unfold wfs; simp only [lk_cons, ne_7_0, ne_7_1, ne_7_2, ne_7_3, ne_7_4, ne_7_5, ne_7_6, if_true, if_false]
theorem pt_own_packets : putF ("own_packets" : Str) v (wfs vP r k vG b w vT vB) = wfs v r k vG b w vT vB := by unfold wfs; simp only [pt_cons, ne_1_0, ne_2_0, ne_3_0, ne_4_0, ne_5_0, ne_6_0, ne_7_0, if_true, if_false]
theorem pt_own_room : putF ("own_room" : Str) (.int i) (wfs vP r k vG b w vT vB) = wfs vP i k vG b w vT vB := by unfold wfs; simp only [pt_cons, ne_0_1, ne_2_1, ne_3_1, ne_4_1, ne_5_1, ne_6_1, ne_7_1, if_true, if_false]
theorem pt_own_known : putF ("own_known" : Str) (.int i) (wfs vP r k vG b w vT vB) = wfs vP r i vG b w vT vB := by unfold wfs; simp only [pt_cons, ne_0_2, ne_1_2, ne_3_2, ne_4_2, ne_5_2, ne_6_2, ne_7_2, if_true, if_false]
theorem pt_own_got : putF ("own_got" : Str) v (wfs vP r k vG b w vT vB) = wfs vP r k v b w vT vB := by unfold wfs; simp only [pt_cons, ne_0_3, ne_1_3, ne_2_3, ne_4_3, ne_5_3, ne_6_3, ne_7_3, if_true, if_false]
theorem pt_own_bit : putF ("own_bit" : Str) (.int i) (wfs vP r k vG b w vT vB) = wfs vP r k vG i w vT vB := by unfold wfs; simp only [pt_cons, ne_0_4, ne_1_4, ne_2_4, ne_3_4, ne_5_4, ne_6_4, ne_7_4, if_true, if_false]
theorem pt_own_waits : putF ("own_waits" : Str) (.int i) (wfs vP r k vG b w vT vB) = wfs vP r k vG b i vT vB := by unfold wfs; simp only [pt_cons, ne_0_5, ne_1_5, ne_2_5, ne_3_5, ne_4_5, ne_6_5, ne_7_5, if_true, if_false]
theorem pt_own_there : putF ("own_there" : Str) v (wfs vP r k vG b w vT vB) = wfs vP r k vG b w v vB := by unfold wfs; simp only [pt_cons, ne_0_6, ne_1_6, ne_2_6, ne_3_6, ne_4_6, ne_5_6, ne_7_6, if_true, if_false]
theorem pt_own_back : putF ("own_back" : Str) v (wfs vP r k vG b w vT vB) = wfs vP r k vG b w vT v := by unfold wfs; simp only [pt_cons, ne_0_7, ne_1_7, ne_2_7, ne_3_7, ne_4_7, ne_5_7, ne_6_7, if_true, if_false]
theorem lk_no {m : Str} (h0 : (m = "own_packets") = False) (h1 : (m = "own_room") = False) (h2 : (m = "own_known") = False) (h3 : (m = "own_got") = False) (h4 : (m = "own_bit") = False) (h5 : (m = "own_waits") = False) (h6 : (m = "own_there") = False) (h7 : (m = "own_back") = False) : (wfs vP r k vG b w vT vB).lookup m = none := by
  unfold wfs; simp only [lk_cons, h0, h1, h2, h3, h4, h5, h6, h7, if_false]
  rfl
theorem lk_go_on : (wfs vP r k vG b w vT vB).lookup ("go_on" : Str) = none := lk_no (eq_false (by decide +kernel)) (eq_false (by decide +kernel)) (eq_false (by decide +kernel)) (eq_false (by decide +kernel)) (eq_false (by decide +kernel)) (eq_false (by decide +kernel)) (eq_false (by decide +kernel)) (eq_false (by decide +kernel))
theorem lk_done : (wfs vP r k vG b w vT vB).lookup ("done" : Str) = none := lk_no (eq_false (by decide +kernel)) (eq_false (by decide +kernel)) (eq_false (by decide +kernel)) (eq_false (by decide +kernel)) (eq_false (by decide +kernel)) (eq_false (by decide +kernel)) (eq_false (by decide +kernel)) (eq_false (by decide +kernel))
theorem lk_do_hear : (wfs vP r k vG b w vT vB).lookup ("do_hear" : Str) = none := lk_no (eq_false (by decide +kernel)) (eq_false (by decide +kernel)) (eq_false (by decide +kernel)) (eq_false (by decide +kernel)) (eq_false (by decide +kernel)) (eq_false (by decide +kernel)) (eq_false (by decide +kernel)) (eq_false (by decide +kernel))
theorem lk_do_heard : (wfs vP r k vG b w vT vB).lookup ("do_heard" : Str) = none := lk_no (eq_false (by decide +kernel)) (eq_false (by decide +kernel)) (eq_false (by decide +kernel)) (eq_false (by decide +kernel)) (eq_false (by decide +kernel)) (eq_false (by decide +kernel)) (eq_false (by decide +kernel)) (eq_false (by decide +kernel))
theorem lk_copy : (wfs vP r k vG b w vT vB).lookup ("copy" : Str) = none := lk_no (eq_false (by decide +kernel)) (eq_false (by decide +kernel)) (eq_false (by decide +kernel)) (eq_false (by decide +kernel)) (eq_false (by decide +kernel)) (eq_false (by decide +kernel)) (eq_false (by decide +kernel)) (eq_false (by decide +kernel))
end
/-- a wire at p: its packets, its room, its state -/
def WireAt (K : PySem.W.Frag) (C : Addr) (H : Hp) (p : Addr) (P : List Int) (r : Int) (s : Wr) : Prop :=
  ∃ dx vP vG vT vB, H p = some (.ins C dx (wfs vP r s.known vG s.bit s.waits vT vB)) ∧ D K H vP (intsD P) ∧ D K H vG (intsD s.got) ∧ D K H vT (lettersD s.there) ∧ D K H vB (intsD s.back)
theorem WireAt.md {K : PySem.W.Frag} {C : Addr} {H H1 : Hp} {p : Addr} {P : List Int} {r : Int} {s : Wr} {ps : List Addr} (h : WireAt K C H p P r s) (m : Md ps H H1) (n : p ∉ ps) : WireAt K C H1 p P r s := by
  obtain ⟨dx, vP, vG, vT, vB, e, d1, d2, d3, d4⟩ := h
  exact ⟨dx, vP, vG, vT, vB, m.k _ _ n e, d1.md m, d2.md m, d3.md m, d4.md m⟩
theorem WireAt.md0 {K : PySem.W.Frag} {C : Addr} {H H1 : Hp} {p : Addr} {P : List Int} {r : Int} {s : Wr} (h : WireAt K C H p P r s) (m : Md [] H H1) : WireAt K C H1 p P r s := h.md m fun z => nomatch z
theorem WireAt.md1 {K : PySem.W.Frag} {C : Addr} {H H1 : Hp} {p q : Addr} {P : List Int} {r : Int} {s : Wr} (h : WireAt K C H p P r s) (m : Md [q] H H1) (n : p ≠ q) : WireAt K C H1 p P r s := h.md m (by simpa using n)
/-- what the proofs know of the class and of the built-in names -/
structure Txt (K : PySem.W.Frag) (mg : Str → Option Value) (C aS aH aD : Addr) : Prop where
  cl : Cls K C
  n_own_packets : NoAttr K C "own_packets"
  n_own_room : NoAttr K C "own_room"
  n_own_known : NoAttr K C "own_known"
  n_own_got : NoAttr K C "own_got"
  n_own_bit : NoAttr K C "own_bit"
  n_own_waits : NoAttr K C "own_waits"
  n_own_there : NoAttr K C "own_there"
  n_own_back : NoAttr K C "own_back"
  b_len : mg "len" = none
  b_isinstance : mg "isinstance" = none
  b_all : mg "all" = none
  b_min : mg "min" = none
  b_max : mg "max" = none
  b_sum : mg "sum" = none
  b_abs : mg "abs" = none
  b_sorted : mg "sorted" = none
  b_str : mg "str" = none
  b_int : mg "int" = none
  b_bool : mg "bool" = none
  b_tuple : mg "tuple" = none
  b_list : mg "list" = none
  b_range : mg "range" = none
  b_enumerate : mg "enumerate" = none
  c_PAIR : ∃ u, mg "PAIR" = some u ∧ RelV (.int 2) u
  c_MOST_PACKETS : ∃ u, mg "MOST_PACKETS" = some u ∧ RelV (.int 100) u
  c_MOST_PACKET : ∃ u, mg "MOST_PACKET" = some u ∧ RelV (.int 1000000) u
  c_MOST_ROOM : ∃ u, mg "MOST_ROOM" = some u ∧ RelV (.int 20) u
  c_MOST_EVENTS : ∃ u, mg "MOST_EVENTS" = some u ∧ RelV (.int 1000) u
  c_PLACED_PARTS : ∃ u, mg "PLACED_PARTS" = some u ∧ RelV (.int 3) u
  c_LOSE : ∃ u, mg "LOSE" = some u ∧ RelV (.str "lose") u
  c_DOUBLE : ∃ u, mg "DOUBLE" = some u ∧ RelV (.str "double") u
  c_BACK : ∃ u, mg "BACK" = some u ∧ RelV (.str "back") u
  c_THERE : ∃ u, mg "THERE" = some u ∧ RelV (.str "there") u
  c_SAY : ∃ u, mg "SAY" = some u ∧ RelV (.ref aS) u
  s_SAY : ∀ H, SqT K H aS [.str "say"]
  c_HEAR : ∃ u, mg "HEAR" = some u ∧ RelV (.ref aH) u
  s_HEAR : ∀ H, SqT K H aH [.str "hear"]
  c_HEARD : ∃ u, mg "HEARD" = some u ∧ RelV (.ref aD) u
  s_HEARD : ∀ H, SqT K H aD [.str "heard"]
theorem pe_cst {X : Cx} {x : Str} {v : V} {pos : Pos} (hg : Gl X x) (h : ∃ u, X.mg x = some u ∧ RelV v u) (hd : (x == ("__debug__" : Str)) = false := by decide) : PE X (.Name x pos) (tC v) := by
  obtain ⟨u, hm, r⟩ := h
  exact pe_glob hg hm r hd
end Dh

namespace Dh
open PySem PySem.Spec PyProof.Rows L2

/-! ### events -/
inductive Ev where
  | say | hear | heard
  | lose (there : Bool) (i : Nat)
  | dbl (there : Bool) (i : Nat)
  deriving DecidableEq
def chan (t : Bool) : Str := if t then "there" else "back"
def Ev.d : Ev → PyData
  | .say => .tuple [.str "say"]
  | .hear => .tuple [.str "hear"]
  | .heard => .tuple [.str "heard"]
  | .lose t i => .tuple [.str "lose", .str (chan t), .int i]
  | .dbl t i => .tuple [.str "double", .str (chan t), .int i]
def evsD (es : List Ev) : PyData := .tuple (es.map Ev.d)
def Wr.init : Wr := ⟨0, [], 0, 0, [], []⟩
def Wr.len (s : Wr) (t : Bool) : Nat := if t then s.there.length else s.back.length
/-- can it stand now -/
def can (P : List Int) (r : Int) (s : Wr) : Ev → Bool
  | .say => decide (s.known < P.length) && decide ((s.there.length : Int) < r)
  | .hear => decide (s.there ≠ [])
  | .heard => decide (s.back ≠ [])
  | .lose t i => decide (i < s.len t)
  | .dbl t i => decide (i < s.len t) && decide ((s.len t : Int) < r)
def lost {α : Type} (l : List α) (i : Nat) : List α := l.take i ++ l.drop (i + 1)
def dbld {α : Type} (l : List α) (i : Nat) : List α := l.take (i + 1) ++ l.drop i
def hearS (r : Int) (s : Wr) : Wr :=
  match s.there with
  | [] => s
  | x :: t => { s with there := t, got := if x.1 = s.waits then s.got ++ [x.2] else s.got, waits := if x.1 = s.waits then 1 - x.1 else s.waits, back := if (s.back.length : Int) < r then s.back ++ [x.1] else s.back }
def heardS (P : List Int) (s : Wr) : Wr :=
  match s.back with
  | [] => s
  | b :: t => if b = s.bit ∧ s.known < P.length then { s with back := t, known := s.known + 1, bit := 1 - b } else { s with back := t }
def stp (P : List Int) (r : Int) (s : Wr) : Ev → Wr
  | .say => { s with there := s.there ++ [(s.bit, P.getD s.known 0)] }
  | .hear => hearS r s
  | .heard => heardS P s
  | .lose true i => { s with there := lost s.there i }
  | .lose false i => { s with back := lost s.back i }
  | .dbl true i => { s with there := dbld s.there i }
  | .dbl false i => { s with back := dbld s.back i }
def run (P : List Int) (r : Int) (s : Wr) : List Ev → Wr
  | [] => s
  | e :: es => run P r (stp P r s e) es
def canAll (P : List Int) (r : Int) (s : Wr) : List Ev → Prop
  | [] => True
  | e :: es => can P r s e = true ∧ canAll P r (stp P r s e) es
/-- packets and room as they may be -/
structure Fit (P : List Int) (r : Int) : Prop where
  len : P.length ≤ 100
  all : ∀ x ∈ P, 0 ≤ x ∧ x ≤ 1000000
  lo : 1 ≤ r
  hi : r ≤ 20
/-- sizes that a walk asks -/
structure Sz (P : List Int) (r : Int) (s : Wr) : Prop where
  known : s.known ≤ P.length
  got : s.got.length ≤ 1000
  there : (s.there.length : Int) ≤ r
  back : (s.back.length : Int) ≤ r
  hi : r ≤ 20

/-! ### all these are plain data -/
theorem let_plain (x : Int × Int) : plainD (letD x) = true := by simp [letD, plainD, plainA]
theorem let_depth (x : Int × Int) : (letD x).depth = 1 := by simp [letD, PyData.depth, PyData.depthAll]
theorem lets_plain : ∀ l : List (Int × Int), plainA (l.map letD) = true
  | [] => rfl
  | x :: l => by simpa [plainA, let_plain] using lets_plain l
theorem lets_depth : ∀ l : List (Int × Int), PyData.depthAll (l.map letD) ≤ 1
  | [] => by simp [PyData.depthAll]
  | x :: l => by
    have h := lets_depth l
    simp only [List.map_cons, PyData.depthAll, let_depth]; omega
theorem ok_let (x : Int × Int) : okD (letD x) := ⟨let_plain x, by rw [let_depth]; omega⟩
theorem ok_letters (l : List (Int × Int)) : okD (lettersD l) := ⟨by simpa [lettersD, plainD] using lets_plain l, by have h := lets_depth l; simp only [lettersD, PyData.depth]; omega⟩
theorem ok_ints (l : List Int) : okD (intsD l) := ⟨by simpa [intsD, plainD] using ints_plain l, by simp only [intsD, PyData.depth, ints_depth]; omega⟩
theorem ok_int (i : Int) : okD (.int i) := ⟨rfl, by simp [PyData.depth]⟩
theorem okD.tup {ds : List PyData} (h : plainA ds = true) (h2 : PyData.depthAll ds ≤ 63) : okD (.tuple ds) := ⟨by simpa [plainD] using h, by simp only [PyData.depth]; omega⟩
theorem letD_inj {x y : Int × Int} (h : letD x = letD y) : x = y := by
  obtain ⟨a, b⟩ := x
  obtain ⟨c, d⟩ := y
  simp only [letD, PyData.tuple.injEq, List.cons.injEq, PyData.int.injEq, and_true] at h
  rw [h.1, h.2]
theorem map_inj' {α β : Type} {f : α → β} (hf : ∀ a b, f a = f b → a = b) : ∀ {l m : List α}, l.map f = m.map f → l = m
  | [], [], _ => rfl
  | a :: l, b :: m, h => by
    simp only [List.map_cons, List.cons.injEq] at h
    rw [hf _ _ h.1, map_inj' hf h.2]
  | [], _ :: _, h => by simp at h
  | _ :: _, [], h => by simp at h
theorem lettersD_inj {l m : List (Int × Int)} (h : lettersD l = lettersD m) : l = m := by
  simp only [lettersD, PyData.tuple.injEq] at h
  exact map_inj' (fun _ _ => letD_inj) h
theorem intsD_inj {l m : List Int} (h : intsD l = intsD m) : l = m := by
  simp only [intsD, PyData.tuple.injEq] at h
  exact map_inj' (fun a b e => by simpa using e) h
theorem ev_plain (e : Ev) : plainD e.d = true := by
  cases e with
  | say => decide +kernel
  | hear => decide +kernel
  | heard => decide +kernel
  | lose t i => cases t <;> (simp only [Ev.d, plainD, plainA, chan, Bool.and_true]; decide +kernel)
  | dbl t i => cases t <;> (simp only [Ev.d, plainD, plainA, chan, Bool.and_true]; decide +kernel)
theorem ev_depth (e : Ev) : (e.d).depth = 1 := by cases e <;> simp [Ev.d, PyData.depth, PyData.depthAll]
theorem ok_ev (e : Ev) : okD e.d := ⟨ev_plain e, by rw [ev_depth]; omega⟩
theorem evs_plain : ∀ l : List Ev, plainA (l.map Ev.d) = true
  | [] => rfl
  | x :: l => by simpa [plainA, ev_plain] using evs_plain l
theorem evs_depth : ∀ l : List Ev, PyData.depthAll (l.map Ev.d) ≤ 1
  | [] => by simp [PyData.depthAll]
  | x :: l => by
    have h := evs_depth l
    simp only [List.map_cons, PyData.depthAll, ev_depth]; omega
theorem ok_evs (l : List Ev) : okD (evsD l) := .tup (evs_plain l) (Nat.le_trans (evs_depth l) (by omega))

/-! ### the promises -/
section

def sp_is_integer (K : PySem.W.Frag) (C : Addr) : Sp := Sp1 fun v H Q => ∃ i, v = .int i ∧ Q (.bl true) H
def sp_is_within (K : PySem.W.Frag) (C : Addr) : Sp := Sp3 fun v l m H Q => ∃ i j k, v = .int i ∧ l = .int j ∧ m = .int k ∧ Q (.bl (decide (j ≤ i ∧ i ≤ k))) H
def sp_is_row (K : PySem.W.Frag) (C : Addr) : Sp := Sp2 fun v m H Q => ∃ ds r, D K H v (.tuple ds) ∧ m = .int r ∧ Q (.bl (decide ((ds.length : Int) ≤ r))) H
def sp_is_letter (K : PySem.W.Frag) (C : Addr) : Sp := Sp1 fun v H Q => ∃ x, D K H v (letD x) ∧ Q (.bl (decide (0 ≤ x.1 ∧ x.1 ≤ 1))) H
def sp_changed_at (K : PySem.W.Frag) (C : Addr) : Sp := Sp2 fun l b H Q => ∃ p a c bit, l = .ref p ∧ b = .int bit ∧ (bit = 0 ∨ bit = 1) ∧ a + c ≤ 1000 ∧ SqL K H p ((List.replicate a (1 - bit) ++ List.replicate c bit).map V.int) ∧ ∀ H', Md [] H H' → Q (.int a) H'
def letOk (l : List (Int × Int)) (bit : Int) (P : List Int) (n : Int) : Prop := (¬ (0 ≤ n ∧ n < P.length) → l = []) ∧ (0 ≤ n → n < P.length → ∀ x ∈ l, x = (bit, P.getD n.toNat 0))
def sp_are_letters (K : PySem.W.Frag) (C : Addr) : Sp := Sp4 fun row b ps n H Q => ∃ l bit P i, D K H row (lettersD l) ∧ b = .int bit ∧ D K H ps (intsD P) ∧ n = .int i ∧ l.length ≤ 1000 ∧ letOk l bit P i ∧ ∀ H', Md [] H H' → Q (.bl true) H'
def standD (s : Wr) : PyData := .tuple [.int s.known, .int s.got.length, lettersD s.there, intsD s.back]
/-- what is_ahead asks -/
structure Ahead (P : List Int) (r : Int) (s : Wr) (bit : Int) : Prop where
  bit01 : bit = 0 ∨ bit = 1
  shape : ∃ a c, s.there = List.replicate a (1 - bit, P.getD (s.known - 1) 0) ++ List.replicate c (bit, P.getD s.known 0) ∧ (a = 0 ∨ 1 ≤ s.known ∧ s.known ≤ P.length) ∧ (c = 0 ∨ s.known < P.length) ∧ (1 < r ∨ a = 0 ∨ s.back = [])
  back : ∀ x ∈ s.back, x = 1 - bit
  zero : s.known = 0 → s.back = []
structure Behind (P : List Int) (s : Wr) (bit : Int) : Prop where
  bit01 : bit = 0 ∨ bit = 1
  there : letOk s.there bit P s.known
  shape : ∃ a c, s.back = List.replicate a (1 - bit) ++ List.replicate c bit ∧ (0 < s.known ∨ a = 0)
def sp_is_ahead (K : PySem.W.Frag) (C : Addr) : Sp := Sp4 fun ps rm st b H Q => ∃ P r s bit, D K H ps (intsD P) ∧ rm = .int r ∧ D K H st (standD s) ∧ b = .int bit ∧ s.there.length ≤ 1000 ∧ s.back.length ≤ 1000 ∧ Ahead P r s bit ∧ ∀ H', Md [] H H' → Q (.bl true) H'
def sp_is_behind (K : PySem.W.Frag) (C : Addr) : Sp := Sp3 fun ps st b H Q => ∃ P s bit, D K H ps (intsD P) ∧ D K H st (standD s) ∧ b = .int bit ∧ s.there.length ≤ 1000 ∧ s.back.length ≤ 1000 ∧ Behind P s bit ∧ ∀ H', Md [] H H' → Q (.bl true) H'
structure Poss (P : List Int) (r : Int) (s : Wr) : Prop where
  fit : Fit P r
  sz : Sz P r s
  gk : s.got.length = s.known ∨ s.got.length = s.known + 1
  gp : s.got.length ≤ P.length
  lets : ∀ x ∈ s.there, x.1 = 0 ∨ x.1 = 1
  answ : ∀ x ∈ s.back, x = 0 ∨ x = 1
  ah : s.got.length = s.known → Ahead P r s ((s.known % 2 : Nat) : Int)
  be : s.got.length = s.known + 1 → Behind P s ((s.known % 2 : Nat) : Int)
def sp_is_possible (K : PySem.W.Frag) (C : Addr) : Sp := Sp3 fun ps rm st H Q => ∃ P r s, D K H ps (intsD P) ∧ rm = .int r ∧ D K H st (standD s) ∧ Poss P r s ∧ ∀ H', Md [] H H' → Q (.bl true) H'
def sp_can_be (K : PySem.W.Frag) (C : Addr) : Sp := Sp3 fun ps rm st H Q => ∃ P r s, D K H ps (intsD P) ∧ rm = .int r ∧ D K H st (standD s) ∧ Poss P r s ∧ ∀ H', Md [] H H' → Q (.bl true) H'
def sp_check_packets (K : PySem.W.Frag) (C : Addr) : Sp := Sp2 fun ps m H Q => ∃ P r, D K H ps (intsD P) ∧ m = .int 100 ∧ Fit P r ∧ ∀ H', Md [] H H' → Q .non H'
def sp_check_room (K : PySem.W.Frag) (C : Addr) : Sp := Sp2 fun rm m H Q => ∃ P r, rm = .int r ∧ m = .int 20 ∧ Fit P r ∧ Q .non H
def sp_Wire___init__ (K : PySem.W.Frag) (C : Addr) : Sp := Sp3 fun self ps rm H Q => ∃ p dx P r, self = .ref p ∧ H p = some (.ins C dx []) ∧ D K H ps (intsD P) ∧ rm = .int r ∧ Fit P r ∧ ∀ H', Md [p] H H' → WireAt K C H' p P r Wr.init → Q .non H'
def spGet (K : PySem.W.Frag) (C : Addr) (f : Wr → Hp → VK → Prop) : Sp := Sp1 fun self H Q => ∃ p P r s, self = .ref p ∧ WireAt K C H p P r s ∧ f s H Q
def spGetD (K : PySem.W.Frag) (C : Addr) (d : Wr → PyData) : Sp := spGet K C fun s H Q => ∀ v H', Md [] H H' → D K H' v (d s) → Q v H'
def sp_Wire_packets (K : PySem.W.Frag) (C : Addr) : Sp := Sp1 fun self H Q => ∃ p P r s, self = .ref p ∧ WireAt K C H p P r s ∧ ∀ v, D K H v (intsD P) → Q v H
def sp_Wire_room (K : PySem.W.Frag) (C : Addr) : Sp := Sp1 fun self H Q => ∃ p P r s, self = .ref p ∧ WireAt K C H p P r s ∧ Q (.int r) H
def sp_Wire_known (K : PySem.W.Frag) (C : Addr) : Sp := Sp1 fun self H Q => ∃ p P r s, self = .ref p ∧ WireAt K C H p P r s ∧ Q (.int s.known) H
def sp_Wire_got (K : PySem.W.Frag) (C : Addr) : Sp := Sp1 fun self H Q => ∃ p P r s, self = .ref p ∧ WireAt K C H p P r s ∧ ∀ v, D K H v (intsD s.got) → Q v H
def sp_Wire_letters (K : PySem.W.Frag) (C : Addr) : Sp := Sp1 fun self H Q => ∃ p P r s, self = .ref p ∧ WireAt K C H p P r s ∧ ∀ v, D K H v (lettersD s.there) → Q v H
def sp_Wire_answers (K : PySem.W.Frag) (C : Addr) : Sp := Sp1 fun self H Q => ∃ p P r s, self = .ref p ∧ WireAt K C H p P r s ∧ ∀ v, D K H v (intsD s.back) → Q v H
def bitsD (s : Wr) : PyData := .tuple [.int s.bit, .int s.waits]
def sp_Wire_bits (K : PySem.W.Frag) (C : Addr) : Sp := Sp1 fun self H Q => ∃ p P r s, self = .ref p ∧ WireAt K C H p P r s ∧ ∀ v H', Md [] H H' → D K H' v (bitsD s) → Q v H'
def sp_Wire_standing (K : PySem.W.Frag) (C : Addr) : Sp := Sp1 fun self H Q => ∃ p P r s, self = .ref p ∧ WireAt K C H p P r s ∧ ∀ v H', Md [] H H' → D K H' v (standD s) → Q v H'
def sp_Wire_do_hear (K : PySem.W.Frag) (C : Addr) : Sp := Sp1 fun self H Q => ∃ p P r s, self = .ref p ∧ WireAt K C H p P r s ∧ Sz P r s ∧ s.there ≠ [] ∧ ∀ H', Md [p] H H' → WireAt K C H' p P r (hearS r s) → Q .non H'
def sp_Wire_do_heard (K : PySem.W.Frag) (C : Addr) : Sp := Sp1 fun self H Q => ∃ p P r s, self = .ref p ∧ WireAt K C H p P r s ∧ Sz P r s ∧ s.back ≠ [] ∧ ∀ H', Md [p] H H' → WireAt K C H' p P r (heardS P s) → Q .non H'
def sp_Wire_done (K : PySem.W.Frag) (C : Addr) : Sp := Sp2 fun self ev H Q => ∃ p P r s e, self = .ref p ∧ WireAt K C H p P r s ∧ Fit P r ∧ Sz P r s ∧ D K H ev (Ev.d e) ∧ can P r s e = true ∧ ∀ H', Md [p] H H' → WireAt K C H' p P r (stp P r s e) → Q .non H'
def sp_Wire_go_on (K : PySem.W.Frag) (C : Addr) : Sp := Sp2 fun self ev H Q => ∃ p P r s e, self = .ref p ∧ WireAt K C H p P r s ∧ Fit P r ∧ Sz P r s ∧ D K H ev (Ev.d e) ∧ can P r s e = true ∧ ∀ H', Md [p] H H' → WireAt K C H' p P r (stp P r s e) → Q .non H'
def sp_Wire_copy (K : PySem.W.Frag) (C : Addr) : Sp := Sp1 fun self H Q => ∃ p P r s, self = .ref p ∧ WireAt K C H p P r s ∧ Fit P r ∧ ∀ q H', H q = none → Md [] H H' → WireAt K C H' q P r s → Q (.ref q) H'
def sp_placed (K : PySem.W.Frag) (C : Addr) : Sp := Sp3 fun row word pl H Q => ∃ (ds : List PyData) (b : Bool) (i : Nat), D K H row (.tuple ds) ∧ word = .str (if b then "lose" else "double") ∧ pl = .int i ∧ i < ds.length ∧ ds.length ≤ 1000 ∧
  ∀ v H', Md [] H H' → D K H' v (.tuple (if b then lost ds i else dbld ds i)) → Q v H'
def sp_can_come (K : PySem.W.Frag) (C : Addr) : Sp := Sp2 fun w ev H Q => ∃ p P r s e, w = .ref p ∧ WireAt K C H p P r s ∧ D K H ev (Ev.d e) ∧ ∀ H', Md [] H H' → Q (.bl (can P r s e)) H'
def sp_can_place (K : PySem.W.Frag) (C : Addr) : Sp := Sp2 fun w ev H Q => ∃ p P r s, ∃ (l : Bool) (t : Bool) (i : Nat), w = .ref p ∧ WireAt K C H p P r s ∧ D K H ev (Ev.d (if l then .lose t i else .dbl t i)) ∧ ∀ H', Md [] H H' → Q (.bl (can P r s (if l then .lose t i else .dbl t i))) H'
def chEvs (r : Int) (t : Bool) (n : Nat) : List Ev := (List.range n).flatMap fun i => .lose t i :: (if (n : Int) < r then [.dbl t i] else [])
def evsNow (P : List Int) (r : Int) (s : Wr) : List Ev := ([.say, .hear, .heard].filter (can P r s)) ++ chEvs r true s.there.length ++ chEvs r false s.back.length
def sp_events_now (K : PySem.W.Frag) (C : Addr) : Sp := Sp1 fun w H Q => ∃ p P r s, w = .ref p ∧ WireAt K C H p P r s ∧ Fit P r ∧ Sz P r s ∧ ∀ v H', Md [] H H' → D K H' v (evsD (evsNow P r s)) → Q v H'
def sp_played_wire (K : PySem.W.Frag) (C : Addr) : Sp := Sp3 fun ps rm es H Q => ∃ P r l, D K H ps (intsD P) ∧ rm = .int r ∧ Fit P r ∧ D K H es (evsD l) ∧ l.length ≤ 1000 ∧ canAll P r Wr.init l ∧ (∀ n, Sz P r (run P r Wr.init (l.take n))) ∧ ∀ q H', H q = none → Md [] H H' → WireAt K C H' q P r (run P r Wr.init l) → Q (.ref q) H'
def sp_calm_round (K : PySem.W.Frag) (C : Addr) : Sp := Sp1 fun w H Q => ∃ p P r s, w = .ref p ∧ WireAt K C H p P r s ∧ Fit P r ∧ s.there = [] ∧ s.back = [] ∧ ∀ v H', Md [] H H' → D K H' v (evsD (if s.known < P.length then [.say, .hear, .heard] else [])) → Q v H'
def tellD (s : Wr) : PyData := .tuple [.int s.known, intsD s.got, bitsD s, lettersD s.there, intsD s.back, standD s]
def sp__law_tells (K : PySem.W.Frag) (C : Addr) : Sp := Sp1 fun w H Q => ∃ p P r s, w = .ref p ∧ WireAt K C H p P r s ∧ ∀ v H', Md [] H H' → D K H' v (tellD s) → Q v H'
/-- a pot at p from which n at most were taken -/
def PotAt (H : Hp) (p : Addr) (n : Nat) : Prop := ∃ o m c : Int, H p = some (.lst [.int o, .int m, .int c]) ∧ 0 ≤ o ∧ o < 2 ^ 1000 ∧ 0 ≤ m ∧ m < 2 ^ 61 ∧ 0 ≤ c ∧ c ≤ n
def sp__law_pot (K : PySem.W.Frag) (C : Addr) : Sp := Sp2 fun sc pl H Q => ∃ a, ∃ (ns : List Int) (i : Nat), sc = .ref a ∧ SqL K H a (ns.map V.int) ∧ pl = .int i ∧ i ≤ 1000 ∧ ∀ p H', H p = none → Md [] H H' → PotAt H' p 0 → Q (.ref p) H'
def sp__law_take (K : PySem.W.Frag) (C : Addr) : Sp := Sp2 fun pot up H Q => ∃ p n u, pot = .ref p ∧ PotAt H p n ∧ n ≤ 1000000 ∧ up = .int u ∧ 1 ≤ u ∧ u ≤ 10000000 ∧ ∀ (d : Int) H', Md [p] H H' → PotAt H' p (n + 1) → 0 ≤ d → d < u → Q (.int d) H'
def sp__law_of (K : PySem.W.Frag) (C : Addr) : Sp := Sp2 fun pot some_ H Q => ∃ p n a xs, pot = .ref p ∧ PotAt H p n ∧ n ≤ 1000000 ∧ some_ = .ref a ∧ ((SqL K H a xs ∧ a ≠ p) ∨ SqT K H a xs) ∧ 0 < xs.length ∧ xs.length ≤ 1000 ∧ ∀ x H', Md [p] H H' → PotAt H' p (n + 1) → x ∈ xs → Q x H'
def sp__law_some (K : PySem.W.Frag) (C : Addr) : Sp := Sp3 fun pot some_ many H Q => ∃ p n a xs m, pot = .ref p ∧ PotAt H p n ∧ n ≤ 900000 ∧ some_ = .ref a ∧ SqL K H a xs ∧ a ≠ p ∧ xs.length ≤ 1000 ∧ many = .int (m : Nat) ∧
  ∀ q H' ys rest, H q = none → Md [p] H H' → PotAt H' p (n + 1000) → H' q = some (.lst ys) → (ys ++ rest).Perm xs → ys.length = min m xs.length → Q (.ref q) H'
def sp__law_cells (K : PySem.W.Frag) (C : Addr) : Sp := Sp2 fun sc most H Q => ∃ a xs, sc = .ref a ∧ SqL K H a xs ∧ xs.length ≤ 1000 ∧ most = .int 2 ∧ ∀ q H' m, H q = none → Md [] H H' → 1 ≤ m → m ≤ 2 → H' q = some (.lst (rgV 0 m)) → Q (.ref q) H'
/-- a row of events that can stand, in which no answer is lost for want of room -/
def noLoss (P : List Int) (r : Int) (s : Wr) : List Ev → Prop
  | [] => True
  | e :: es => (e = .hear → (s.back.length : Int) < r) ∧ noLoss P r (stp P r s e) es
def sp__law_going (K : PySem.W.Frag) (C : Addr) : Sp := Sp4 fun pot ps rm many H Q => ∃ p n P r m, pot = .ref p ∧ PotAt H p n ∧ n ≤ 500000 ∧ D K H ps (intsD P) ∧ rm = .int r ∧ Fit P r ∧ many = .int (m : Nat) ∧ m ≤ 400 ∧
  ∀ t q vE H' es b, H q = none → Md [p] H H' → PotAt H' p (n + 3 * m) → SqT K H' t [.ref q, vE, .bl b] → WireAt K C H' q P r (run P r Wr.init es) → D K H' vE (evsD es) → es.length ≤ m → canAll P r Wr.init es → (b = false → noLoss P r Wr.init es) → Q (.ref t) H'
end
end Dh

namespace Dh
open PySem PySem.Spec PyProof.Rows L2

/-! ### the protocol's invariant -/
structure Ok (P : List Int) (r : Int) (s : Wr) : Prop where
  kn : s.known ≤ P.length
  bit : s.bit = ((s.known % 2 : Nat) : Int)
  waits : s.waits = ((s.got.length % 2 : Nat) : Int)
  got : s.got = P.take s.got.length
  gp : s.got.length ≤ P.length
  there : (s.there.length : Int) ≤ r
  back : (s.back.length : Int) ≤ r
  lo : 1 ≤ r
  shape : (s.got.length = s.known ∧ (∃ a c, s.there = List.replicate a (1 - s.bit, P.getD (s.known - 1) 0) ++ List.replicate c (s.bit, P.getD s.known 0) ∧ (a = 0 ∨ 1 ≤ s.known) ∧ (c = 0 ∨ s.known < P.length) ∧ (1 < r ∨ a = 0 ∨ s.back = [])) ∧
      (∃ n, s.back = List.replicate n (1 - s.bit) ∧ (s.known = 0 → n = 0))) ∨
    (s.got.length = s.known + 1 ∧ (∃ c, s.there = List.replicate c (s.bit, P.getD s.known 0)) ∧ ∃ a c, s.back = List.replicate a (1 - s.bit) ++ List.replicate c s.bit ∧ (0 < s.known ∨ a = 0))

theorem rep_lost {α : Type} {x : α} {n i : Nat} (h : i < n) : lost (List.replicate n x) i = List.replicate (n - 1) x := by
  unfold lost
  rw [List.take_replicate, List.drop_replicate, List.replicate_append_replicate]
  congr 1; omega
theorem rep_dbld {α : Type} {x : α} {n i : Nat} (h : i < n) : dbld (List.replicate n x) i = List.replicate (n + 1) x := by
  unfold dbld
  rw [List.take_replicate, List.drop_replicate, List.replicate_append_replicate]
  congr 1; omega
theorem lost_app1 {α : Type} {l m : List α} {i : Nat} (h : i < l.length) : lost (l ++ m) i = lost l i ++ m := by
  unfold lost
  rw [List.take_append_of_le_length (by omega), List.drop_append_of_le_length (by omega), List.append_assoc]
theorem lost_app2 {α : Type} {l m : List α} {i : Nat} (h : ¬ i < l.length) : lost (l ++ m) i = l ++ lost m (i - l.length) := by
  unfold lost
  rw [List.take_append, List.drop_append, List.take_of_length_le (by omega), List.drop_of_length_le (by omega), List.nil_append, List.append_assoc]
  congr 3
  omega
theorem dbld_app1 {α : Type} {l m : List α} {i : Nat} (h : i < l.length) : dbld (l ++ m) i = dbld l i ++ m := by
  unfold dbld
  rw [List.take_append_of_le_length (by omega), List.drop_append_of_le_length (by omega), List.append_assoc]
theorem dbld_app2 {α : Type} {l m : List α} {i : Nat} (h : ¬ i < l.length) : dbld (l ++ m) i = l ++ dbld m (i - l.length) := by
  unfold dbld
  rw [List.take_append, List.drop_append, List.take_of_length_le (by omega), List.drop_of_length_le (by omega), List.nil_append, List.append_assoc]
  congr 3
  omega
/-- a loss in a row of two kinds -/
theorem two_lost {α : Type} {x y : α} {a c i : Nat} (h : i < a + c) : ∃ a' c', lost (List.replicate a x ++ List.replicate c y) i = List.replicate a' x ++ List.replicate c' y ∧ a' ≤ a ∧ c' ≤ c ∧ a' + c' + 1 = a + c := by
  by_cases h1 : i < a
  · refine ⟨a - 1, c, ?_, by omega, Nat.le_refl _, by omega⟩
    rw [lost_app1 (by simpa using h1), rep_lost h1]
  · refine ⟨a, c - 1, ?_, Nat.le_refl _, by omega, by omega⟩
    rw [lost_app2 (by simpa using h1), List.length_replicate, rep_lost (by omega)]
theorem two_dbld {α : Type} {x y : α} {a c i : Nat} (h : i < a + c) : ∃ a' c', dbld (List.replicate a x ++ List.replicate c y) i = List.replicate a' x ++ List.replicate c' y ∧ (a' = 0 ↔ a = 0) ∧ (c' = 0 ↔ c = 0) ∧ a' + c' = a + c + 1 := by
  by_cases h1 : i < a
  · refine ⟨a + 1, c, ?_, by omega, Iff.rfl, by omega⟩
    rw [dbld_app1 (by simpa using h1), rep_dbld h1]
  · refine ⟨a, c + 1, ?_, Iff.rfl, by omega, by omega⟩
    rw [dbld_app2 (by simpa using h1), List.length_replicate, rep_dbld (by omega)]
theorem lost_len {α : Type} {l : List α} {i : Nat} (h : i < l.length) : (lost l i).length + 1 = l.length := by
  unfold lost
  simp; omega
theorem dbld_len {α : Type} {l : List α} {i : Nat} (h : i < l.length) : (dbld l i).length = l.length + 1 := by
  unfold dbld
  simp; omega

theorem ok_init {P : List Int} {r : Int} (h : 1 ≤ r) : Ok P r Wr.init where
  kn := Nat.zero_le _
  bit := rfl
  waits := rfl
  got := rfl
  gp := Nat.zero_le _
  there := by show (0 : Int) ≤ r; omega
  back := by show (0 : Int) ≤ r; omega
  lo := h
  shape := .inl ⟨rfl, ⟨0, 0, rfl, .inl rfl, .inl rfl, .inr (.inl rfl)⟩, 0, rfl, fun _ => rfl⟩
theorem par_flip (n : Nat) : (((n + 1) % 2 : Nat) : Int) = 1 - ((n % 2 : Nat) : Int) := by omega
theorem par_ne (n : Nat) : ((n % 2 : Nat) : Int) ≠ 1 - ((n % 2 : Nat) : Int) := by omega
theorem cons_rep {α : Type} {x z : α} {t : List α} {n : Nat} (h : z :: t = List.replicate n x) : z = x ∧ t = List.replicate (n - 1) x ∧ 1 ≤ n := by
  cases n with
  | zero => simp at h
  | succ n =>
    rw [List.replicate_succ] at h
    injection h with h1 h2
    exact ⟨h1, h2, by omega⟩
theorem cons_two {α : Type} {x y z : α} {t : List α} {a c : Nat} (h : z :: t = List.replicate a x ++ List.replicate c y) : (z = x ∧ 1 ≤ a ∧ t = List.replicate (a - 1) x ++ List.replicate c y) ∨ (z = y ∧ a = 0 ∧ 1 ≤ c ∧ t = List.replicate (c - 1) y) := by
  cases a with
  | zero =>
    rw [List.replicate_zero, List.nil_append] at h
    obtain ⟨h1, h2, h3⟩ := cons_rep h
    exact .inr ⟨h1, rfl, h3, h2⟩
  | succ a =>
    rw [List.replicate_succ, List.cons_append] at h
    injection h with h1 h2
    exact .inl ⟨h1, by omega, h2⟩
theorem take_succ_getD {P : List Int} {n : Nat} (h : n < P.length) : P.take (n + 1) = P.take n ++ [P.getD n 0] := by
  rw [List.take_add_one, List.getD_eq_getElem?_getD, List.getElem?_eq_getElem h]
  rfl
theorem rep_snoc {α : Type} (x : α) (n : Nat) : List.replicate n x ++ [x] = List.replicate (n + 1) x := by rw [List.replicate_succ']

theorem ok_step {P : List Int} {r : Int} {s : Wr} {e : Ev} (O : Ok P r s) (hc : can P r s e = true) : Ok P r (stp P r s e) := by
  obtain ⟨known, got, bit, waits, there, back⟩ := s
  obtain ⟨kn, hbit, hwaits, hgot, gp, ht, hb, lo, shape⟩ := O
  simp only at kn hbit hwaits hgot gp ht hb shape
  cases e with
  | say =>
    have hc' : known < P.length ∧ (there.length : Int) < r := by simpa [can] using hc
    refine ⟨kn, hbit, hwaits, hgot, gp, ?_, hb, lo, ?_⟩
    · show ((there ++ [(bit, P.getD known 0)]).length : Int) ≤ r
      simp; omega
    · rcases shape with ⟨e1, ⟨a, c, e2, e3, e4, e5⟩, e6⟩ | ⟨e1, ⟨c, e2⟩, e6⟩
      · refine .inl ⟨e1, ⟨a, c + 1, ?_, e3, .inr hc'.1, e5⟩, e6⟩
        show there ++ [(bit, P.getD known 0)] = _
        rw [e2, List.append_assoc, rep_snoc]
        rfl
      · refine .inr ⟨e1, ⟨c + 1, ?_⟩, e6⟩
        show there ++ [(bit, P.getD known 0)] = _
        rw [e2, rep_snoc]
        rfl
  | hear =>
    have hne : there ≠ [] := by simpa [can] using hc
    cases there with
    | nil => exact absurd rfl hne
    | cons x t =>
      have ht' : (t.length : Int) + 1 ≤ r := by simpa using ht
      have hback : ∀ b : Int, (((if (back.length : Int) < r then back ++ [b] else back) : List Int).length : Int) ≤ r := by
        intro b
        split
        · simp; omega
        · exact hb
      rcases shape with ⟨e1, ⟨a, c, e2, e3, e4, e5⟩, n, e6, e7⟩ | ⟨e1, ⟨c, e2⟩, a, c', e6, e7⟩
      · rcases cons_two e2 with ⟨z1, z2, z3⟩ | ⟨z1, z2, z3, z4⟩
        · -- an elder letter
          have hx : x.1 = 1 - bit := by rw [z1]
          have hw : ¬ x.1 = waits := by rw [hx, hwaits, e1, hbit]; exact fun z => par_ne known z.symm
          have hk1 : 1 ≤ known := e3.resolve_left (by omega)
          have es : stp P r ⟨known, got, bit, waits, x :: t, back⟩ .hear = ⟨known, got, bit, waits, t, if (back.length : Int) < r then back ++ [x.1] else back⟩ := by simp [stp, hearS, hw]
          rw [es]
          refine ⟨kn, hbit, hwaits, hgot, gp, by show (t.length : Int) ≤ r; omega, hback x.1, lo, .inl ⟨e1, ⟨a - 1, c, z3, .inr hk1, e4, ?_⟩, ?_⟩⟩
          · by_cases hr : 1 < r
            · exact .inl hr
            · refine .inr (.inl ?_)
              have hl : (t.length : Int) = 0 := by omega
              rw [z3] at hl
              simp at hl
              omega
          · by_cases hl : (back.length : Int) < r
            · rw [if_pos hl]
              exact ⟨n + 1, by rw [e6, hx, rep_snoc], fun z => absurd z (by simp only; omega)⟩
            · rw [if_neg hl]
              exact ⟨n, e6, fun z => absurd z (by simp only; omega)⟩
        · -- a newer letter
          have hkp : known < P.length := e4.resolve_left (by omega)
          have hx : x.1 = bit := by rw [z1]
          have hx2 : x.2 = P.getD known 0 := by rw [z1]
          have hw : x.1 = waits := by rw [hx, hwaits, e1, hbit]
          have es : stp P r ⟨known, got, bit, waits, x :: t, back⟩ .hear = ⟨known, got ++ [x.2], bit, 1 - x.1, t, if (back.length : Int) < r then back ++ [x.1] else back⟩ := by simp [stp, hearS, hw]
          rw [es]
          have hlen : (got ++ [x.2]).length = known + 1 := by simp [e1]
          refine ⟨kn, hbit, ?_, ?_, by simp only; omega, by show (t.length : Int) ≤ r; omega, hback x.1, lo, .inr ⟨hlen, ⟨c - 1, ?_⟩, ?_⟩⟩
          · show 1 - x.1 = (((got ++ [x.2]).length % 2 : Nat) : Int)
            rw [hlen, par_flip, hx, hbit]
          · show got ++ [x.2] = P.take (got ++ [x.2]).length
            rw [hlen, take_succ_getD hkp, hx2, hgot, e1]
            all_goals (try (congr 2)) 
            all_goals (try (rw [List.length_take]; omega))
          · show t = _
            rw [z4]
          · by_cases hl : (back.length : Int) < r
            · rw [if_pos hl]
              refine ⟨n, 1, by rw [e6, hx]; rfl, ?_⟩
              show 0 < known ∨ n = 0
              by_cases h0 : known = 0
              · exact .inr (e7 h0)
              · exact .inl (by omega)
            · rw [if_neg hl]
              refine ⟨n, 0, by rw [e6]; simp, ?_⟩
              show 0 < known ∨ n = 0
              by_cases h0 : known = 0
              · exact .inr (e7 h0)
              · exact .inl (by omega)
      · -- got already
        obtain ⟨z1, z2, z3⟩ := cons_rep e2
        have hx : x.1 = bit := by rw [z1]
        have hw : ¬ x.1 = waits := by rw [hx, hwaits, e1, hbit, par_flip]; exact par_ne known
        have es : stp P r ⟨known, got, bit, waits, x :: t, back⟩ .hear = ⟨known, got, bit, waits, t, if (back.length : Int) < r then back ++ [x.1] else back⟩ := by simp [stp, hearS, hw]
        rw [es]
        refine ⟨kn, hbit, hwaits, hgot, gp, by show (t.length : Int) ≤ r; omega, hback x.1, lo, .inr ⟨e1, ⟨c - 1, z2⟩, ?_⟩⟩
        by_cases hl : (back.length : Int) < r
        · rw [if_pos hl]
          exact ⟨a, c' + 1, by rw [e6, hx, List.append_assoc, rep_snoc], e7⟩
        · rw [if_neg hl]
          exact ⟨a, c', e6, e7⟩
  | heard =>
    have hne : back ≠ [] := by simpa [can] using hc
    cases back with
    | nil => exact absurd rfl hne
    | cons b t =>
      have hb' : (t.length : Int) + 1 ≤ r := by simpa using hb
      rcases shape with ⟨e1, ⟨a, c, e2, e3, e4, e5⟩, n, e6, e7⟩ | ⟨e1, ⟨c, e2⟩, a, c', e6, e7⟩
      · obtain ⟨z1, z2, z3⟩ := cons_rep e6
        have hw : ¬ (b = bit ∧ known < P.length) := fun z => by
          have := z.1
          rw [z1, hbit] at this
          exact par_ne known this.symm
        have es : stp P r ⟨known, got, bit, waits, there, b :: t⟩ .heard = ⟨known, got, bit, waits, there, t⟩ := by
          show heardS P ⟨known, got, bit, waits, there, b :: t⟩ = _
          simp only [heardS]; rw [if_neg hw]
        rw [es]
        refine ⟨kn, hbit, hwaits, hgot, gp, ht, by show (t.length : Int) ≤ r; omega, lo, .inl ⟨e1, ⟨a, c, e2, e3, e4, ?_⟩, n - 1, z2, fun z => by have := e7 z; omega⟩⟩
        rcases e5 with q | q | q
        · exact .inl q
        · exact .inr (.inl q)
        · cases q
      · rcases cons_two e6 with ⟨z1, z2, z3⟩ | ⟨z1, z2, z3, z4⟩
        · have hw : ¬ (b = bit ∧ known < P.length) := fun z => by
            have := z.1
            rw [z1, hbit] at this
            exact par_ne known this.symm
          have es : stp P r ⟨known, got, bit, waits, there, b :: t⟩ .heard = ⟨known, got, bit, waits, there, t⟩ := by
            show heardS P ⟨known, got, bit, waits, there, b :: t⟩ = _
            simp only [heardS]; rw [if_neg hw]
          rw [es]
          refine ⟨kn, hbit, hwaits, hgot, gp, ht, by show (t.length : Int) ≤ r; omega, lo, .inr ⟨e1, ⟨c, e2⟩, a - 1, c', z3, ?_⟩⟩
          rcases e7 with q | q
          · exact .inl q
          · omega
        · have hkp : known < P.length := by omega
          have es : stp P r ⟨known, got, bit, waits, there, b :: t⟩ .heard = ⟨known + 1, got, 1 - b, waits, there, t⟩ := by
            show heardS P ⟨known, got, bit, waits, there, b :: t⟩ = _
            simp only [heardS]; rw [if_pos ⟨z1, hkp⟩]
          rw [es]
          have hb1 : 1 - b = (((known + 1) % 2 : Nat) : Int) := by rw [z1, hbit, par_flip]
          have hbb : 1 - (1 - b) = bit := by omega
          refine ⟨by simp only; omega, hb1, hwaits, hgot, gp, ht, by show (t.length : Int) ≤ r; omega, lo, .inl ⟨e1, ⟨c, 0, ?_, .inr (by simp only; omega), .inl rfl, ?_⟩, c' - 1, ?_, fun z => absurd z (by simp only; omega)⟩⟩
          · show there = _
            simp only [hbb, Nat.add_sub_cancel]
            rw [e2]; simp
          · by_cases hr : 1 < r
            · exact .inl hr
            · refine .inr (.inr ?_)
              have : t.length = 0 := by omega
              exact List.length_eq_zero_iff.mp this
          · show t = _
            simp only [hbb]
            exact z4
  | lose tt i =>
    have hi : i < (⟨known, got, bit, waits, there, back⟩ : Wr).len tt := by simpa [can] using hc
    cases tt with
    | true =>
      have hi' : i < there.length := hi
      have hl := lost_len hi'
      rw [show stp P r ⟨known, got, bit, waits, there, back⟩ (.lose true i) = ⟨known, got, bit, waits, lost there i, back⟩ from rfl]
      refine ⟨kn, hbit, hwaits, hgot, gp, by show ((lost there i).length : Int) ≤ r; omega, hb, lo, ?_⟩
      rcases shape with ⟨e1, ⟨a, c, e2, e3, e4, e5⟩, e6⟩ | ⟨e1, ⟨c, e2⟩, e6⟩
      · rw [e2] at hi'
        obtain ⟨a', c', q1, q2, q3, q4⟩ := two_lost (x := (1 - bit, P.getD (known - 1) 0)) (y := (bit, P.getD known 0)) (a := a) (c := c) (i := i) (by simpa using hi')
        refine .inl ⟨e1, ⟨a', c', by show lost there i = _; rw [e2, q1], ?_, ?_, ?_⟩, e6⟩
        · rcases e3 with q | q
          · exact .inl (by omega)
          · exact .inr q
        · rcases e4 with q | q
          · exact .inl (by omega)
          · exact .inr q
        · rcases e5 with q | q | q
          · exact .inl q
          · exact .inr (.inl (by omega))
          · exact .inr (.inr q)
      · rw [e2] at hi'
        refine .inr ⟨e1, ⟨c - 1, ?_⟩, e6⟩
        show lost there i = _
        rw [e2, rep_lost (by simpa using hi')]
    | false =>
      have hi' : i < back.length := hi
      have hl := lost_len hi'
      rw [show stp P r ⟨known, got, bit, waits, there, back⟩ (.lose false i) = ⟨known, got, bit, waits, there, lost back i⟩ from rfl]
      refine ⟨kn, hbit, hwaits, hgot, gp, ht, by show ((lost back i).length : Int) ≤ r; omega, lo, ?_⟩
      rcases shape with ⟨e1, ⟨a, c, e2, e3, e4, e5⟩, n, e6, e7⟩ | ⟨e1, e2, a, c', e6, e7⟩
      · rw [e6] at hi'
        refine .inl ⟨e1, ⟨a, c, e2, e3, e4, ?_⟩, n - 1, ?_, fun z => by have := e7 z; omega⟩
        · rcases e5 with q | q | q
          · exact .inl q
          · exact .inr (.inl q)
          · have : n = 0 := by rw [q] at e6; cases n with | zero => rfl | succ n => simp at e6
            rw [this] at hi'; simp at hi'
        · show lost back i = _
          rw [e6, rep_lost (by simpa using hi')]
      · rw [e6] at hi'
        obtain ⟨a', c'', q1, q2, q3, q4⟩ := two_lost (x := 1 - bit) (y := bit) (a := a) (c := c') (i := i) (by simpa using hi')
        refine .inr ⟨e1, e2, a', c'', by show lost back i = _; rw [e6, q1], ?_⟩
        rcases e7 with q | q
        · exact .inl q
        · exact .inr (by omega)
  | dbl tt i =>
    have hi : i < (⟨known, got, bit, waits, there, back⟩ : Wr).len tt ∧ (((⟨known, got, bit, waits, there, back⟩ : Wr).len tt : Nat) : Int) < r := by simpa [can] using hc
    cases tt with
    | true =>
      have hi' : i < there.length := hi.1
      have hr : (there.length : Int) < r := hi.2
      have hl := dbld_len hi'
      rw [show stp P r ⟨known, got, bit, waits, there, back⟩ (.dbl true i) = ⟨known, got, bit, waits, dbld there i, back⟩ from rfl]
      refine ⟨kn, hbit, hwaits, hgot, gp, by show ((dbld there i).length : Int) ≤ r; omega, hb, lo, ?_⟩
      have hr1 : 1 < r := by omega
      rcases shape with ⟨e1, ⟨a, c, e2, e3, e4, e5⟩, e6⟩ | ⟨e1, ⟨c, e2⟩, e6⟩
      · rw [e2] at hi'
        obtain ⟨a', c', q1, q2, q3, q4⟩ := two_dbld (x := (1 - bit, P.getD (known - 1) 0)) (y := (bit, P.getD known 0)) (a := a) (c := c) (i := i) (by simpa using hi')
        refine .inl ⟨e1, ⟨a', c', by show dbld there i = _; rw [e2, q1], ?_, ?_, .inl hr1⟩, e6⟩
        · rcases e3 with q | q
          · exact .inl (q2.mpr q)
          · exact .inr q
        · rcases e4 with q | q
          · exact .inl (q3.mpr q)
          · exact .inr q
      · rw [e2] at hi'
        refine .inr ⟨e1, ⟨c + 1, ?_⟩, e6⟩
        show dbld there i = _
        rw [e2, rep_dbld (by simpa using hi')]
    | false =>
      have hi' : i < back.length := hi.1
      have hr : (back.length : Int) < r := hi.2
      have hl := dbld_len hi'
      have hr1 : 1 < r := by omega
      rw [show stp P r ⟨known, got, bit, waits, there, back⟩ (.dbl false i) = ⟨known, got, bit, waits, there, dbld back i⟩ from rfl]
      refine ⟨kn, hbit, hwaits, hgot, gp, ht, by show ((dbld back i).length : Int) ≤ r; omega, lo, ?_⟩
      rcases shape with ⟨e1, ⟨a, c, e2, e3, e4, e5⟩, n, e6, e7⟩ | ⟨e1, e2, a, c', e6, e7⟩
      · rw [e6] at hi'
        refine .inl ⟨e1, ⟨a, c, e2, e3, e4, .inl hr1⟩, n + 1, ?_, fun z => ?_⟩
        · show dbld back i = _
          rw [e6, rep_dbld (by simpa using hi')]
        · have := e7 z
          rw [this] at hi'; simp at hi'
      · rw [e6] at hi'
        obtain ⟨a', c'', q1, q2, q3, q4⟩ := two_dbld (x := 1 - bit) (y := bit) (a := a) (c := c') (i := i) (by simpa using hi')
        refine .inr ⟨e1, e2, a', c'', by show dbld back i = _; rw [e6, q1], ?_⟩
        rcases e7 with q | q
        · exact .inl q
        · exact .inr (q2.mpr q)
end Dh

namespace Dh
open PySem PySem.Spec PyProof.Rows L2

theorem ok_run {P : List Int} {r : Int} : ∀ {es : List Ev} {s : Wr}, Ok P r s → canAll P r s es → Ok P r (run P r s es)
  | [], _, O, _ => O
  | e :: es, _, O, h => ok_run (es := es) (ok_step O h.1) h.2
theorem Ok.sz {P : List Int} {r : Int} {s : Wr} (F : Fit P r) (O : Ok P r s) : Sz P r s where
  known := O.kn
  got := Nat.le_trans O.gp (Nat.le_trans F.len (by decide))
  there := O.there
  back := O.back
  hi := F.hi
theorem bit01 (n : Nat) : ((n % 2 : Nat) : Int) = 0 ∨ ((n % 2 : Nat) : Int) = 1 := by omega
theorem Ok.poss {P : List Int} {r R : Int} {s : Wr} (F : Fit P r) (O : Ok P r s) (h : r ≤ R) (h2 : R ≤ 20) : Poss P R s where
  fit := ⟨F.len, F.all, by have := F.lo; omega, h2⟩
  sz := ⟨O.kn, (O.sz F).got, by have := O.there; omega, by have := O.back; omega, h2⟩
  gk := by
    rcases O.shape with ⟨e, _⟩ | ⟨e, _⟩
    · exact .inl e
    · exact .inr e
  gp := O.gp
  lets := fun x hx => by
    have hb := O.bit
    have hb01 := bit01 s.known
    rcases O.shape with ⟨_, ⟨a, c, e2, _⟩, _⟩ | ⟨_, ⟨c, e2⟩, _⟩
    · rw [e2] at hx
      rcases List.mem_append.mp hx with hx | hx
      · have e := (List.mem_replicate.mp hx).2
        rw [e]; simp only; omega
      · have e := (List.mem_replicate.mp hx).2
        rw [e]; simp only; omega
    · rw [e2] at hx
      have e := (List.mem_replicate.mp hx).2
      rw [e]; simp only; omega
  answ := fun x hx => by
    have hb := O.bit
    have hb01 := bit01 s.known
    rcases O.shape with ⟨_, _, n, e6, _⟩ | ⟨_, _, a, c, e6, _⟩
    · rw [e6] at hx
      have e := (List.mem_replicate.mp hx).2
      omega
    · rw [e6] at hx
      rcases List.mem_append.mp hx with hx | hx
      · have e := (List.mem_replicate.mp hx).2
        omega
      · have e := (List.mem_replicate.mp hx).2
        omega
  ah := fun hg => by
    rcases O.shape with ⟨_, ⟨a, c, e2, e3, e4, e5⟩, n, e6, e7⟩ | ⟨e1, _⟩
    · rw [← O.bit]
      refine ⟨by rw [O.bit]; exact bit01 _, ⟨a, c, e2, ?_, e4, ?_⟩, fun x hx => ?_, fun z => ?_⟩
      · rcases e3 with q | q
        · exact .inl q
        · exact .inr ⟨q, O.kn⟩
      · rcases e5 with q | q
        · exact .inl (by omega)
        · exact .inr q
      · rw [e6] at hx
        exact (List.mem_replicate.mp hx).2
      · rw [e6, e7 z]; rfl
    · omega
  be := fun hg => by
    rcases O.shape with ⟨e1, _⟩ | ⟨e1, ⟨c, e2⟩, a, c', e6, e7⟩
    · omega
    · rw [← O.bit]
      refine ⟨by rw [O.bit]; exact bit01 _, ⟨fun hn => ?_, fun h0 h1 x hx => ?_⟩, a, c', e6, e7⟩
      · have := O.gp
        exact absurd ⟨by omega, by omega⟩ hn
      · rw [e2] at hx
        have e := (List.mem_replicate.mp hx).2
        rw [e]
        rfl
theorem canAll_take {P : List Int} {r : Int} : ∀ {l : List Ev} {s : Wr} (n : Nat), canAll P r s l → canAll P r s (l.take n)
  | _, _, 0, _ => trivial
  | [], _, _ + 1, _ => trivial
  | e :: l, _, n + 1, h => ⟨h.1, canAll_take (l := l) n h.2⟩
theorem canAll_append {P : List Int} {r : Int} : ∀ {l m : List Ev} {s : Wr}, canAll P r s l → canAll P r (run P r s l) m → canAll P r s (l ++ m)
  | [], _, _, _, h => h
  | e :: l, m, _, h1, h2 => ⟨h1.1, canAll_append (l := l) h1.2 h2⟩
theorem canAll_drop {P : List Int} {r : Int} : ∀ {l : List Ev} {s : Wr} (n : Nat), canAll P r s l → canAll P r (run P r s (l.take n)) (l.drop n)
  | l, _, 0, h => h
  | [], _, _ + 1, _ => trivial
  | e :: l, _, n + 1, h => canAll_drop (l := l) n h.2
theorem run_app (P : List Int) (r : Int) : ∀ (l m : List Ev) (s : Wr), run P r s (l ++ m) = run P r (run P r s l) m
  | [], _, _ => rfl
  | e :: l, m, s => run_app P r l m (stp P r s e)
theorem noLoss_append {P : List Int} {r : Int} : ∀ {l : List Ev} {s : Wr} {e : Ev}, noLoss P r s l → (e = .hear → ((run P r s l).back.length : Int) < r) → noLoss P r s (l ++ [e])
  | [], _, _, _, h => ⟨h, trivial⟩
  | a :: l, _, _, h1, h2 => ⟨h1.1, noLoss_append (l := l) h1.2 h2⟩
/-- more room: the same events lead to the same -/
theorem wider {P : List Int} {r : Int} : ∀ {l : List Ev} {s : Wr}, canAll P r s l → noLoss P r s l → canAll P (r + 1) s l ∧ run P (r + 1) s l = run P r s l
  | [], _, _, _ => ⟨trivial, rfl⟩
  | e :: l, s, h, n => by
    have hcan : can P (r + 1) s e = true := by
      have h1 := h.1
      cases e with
      | say => simp only [can, Bool.and_eq_true, decide_eq_true_eq] at h1 ⊢; exact ⟨h1.1, by omega⟩
      | hear => exact h1
      | heard => exact h1
      | lose t i => exact h1
      | dbl t i => simp only [can, Bool.and_eq_true, decide_eq_true_eq] at h1 ⊢; exact ⟨h1.1, by omega⟩
    have hst : stp P (r + 1) s e = stp P r s e := by
      cases e with
      | hear =>
        have hb := n.1 rfl
        show hearS (r + 1) s = hearS r s
        unfold hearS
        cases s.there with
        | nil => rfl
        | cons x t => simp only [if_pos hb, if_pos (show (s.back.length : Int) < r + 1 by omega)]
      | say => rfl
      | heard => rfl
      | lose t i => cases t <;> rfl
      | dbl t i => cases t <;> rfl
    have ih := wider (l := l) h.2 n.2
    refine ⟨⟨hcan, by rw [hst]; exact ih.1⟩, ?_⟩
    show run P (r + 1) (stp P (r + 1) s e) l = run P r (stp P r s e) l
    rw [hst]
    exact ih.2
theorem evsNow_can {P : List Int} {r : Int} {s : Wr} {e : Ev} (h : e ∈ evsNow P r s) : can P r s e = true := by
  unfold evsNow at h
  have ch : ∀ t n, n = s.len t → e ∈ chEvs r t n → can P r s e = true := by
    intro t n hn he
    unfold chEvs at he
    obtain ⟨i, hi, he⟩ := List.mem_flatMap.mp he
    have hi' := List.mem_range.mp hi
    rcases List.mem_cons.mp he with he | he
    · rw [he]
      simp only [can, decide_eq_true_eq]
      omega
    · split at he
      · rename_i hl
        rcases List.mem_cons.mp he with he | he
        · rw [he]
          simp only [can, Bool.and_eq_true, decide_eq_true_eq]
          omega
        · cases he
      · cases he
  rcases List.mem_append.mp h with h | h
  · rcases List.mem_append.mp h with h | h
    · exact (List.mem_filter.mp h).2
    · exact ch true _ rfl h
  · exact ch false _ rfl h
theorem len_evsNow {P : List Int} {r : Int} {s : Wr} (Z : Sz P r s) : (evsNow P r s).length ≤ 200 := by
  have cl : ∀ t n, (chEvs r t n).length ≤ 2 * n := by
    intro t n
    unfold chEvs
    have : ∀ (m : Nat) (f : Nat → List Ev), (∀ i, (f i).length ≤ 2) → ((List.range m).flatMap f).length ≤ 2 * m := by
      intro m f hf
      induction m with
      | zero => simp
      | succ m ihm =>
        rw [List.range_succ, List.flatMap_append, List.length_append]
        have := hf m
        simp only [List.flatMap_cons, List.flatMap_nil, List.append_nil]
        omega
    exact this n _ fun i => by
      simp only [List.length_cons]
      split <;> simp
  have h1 := cl true s.there.length
  have h2 := cl false s.back.length
  have h3 := Z.there
  have h4 := Z.back
  have h5 := Z.hi
  have h0 : ([Ev.say, .hear, .heard].filter (can P r s)).length ≤ 3 := List.length_filter_le _ _
  simp only [evsNow, List.length_append]
  omega

/-! ### doubled and lost again -/
theorem lost_dbld {α : Type} {l : List α} {i : Nat} (h : i < l.length) : lost (dbld l i) i = l ∧ lost (dbld l i) (i + 1) = l := by
  have e1 : (l.take (i + 1)).length = i + 1 := by rw [List.length_take]; omega
  have t1 : (dbld l i).take (i + 1) = l.take (i + 1) := by
    unfold dbld; rw [List.take_append_of_le_length (by omega), List.take_of_length_le (by omega)]
  have d1 : (dbld l i).drop (i + 1) = l.drop i := by
    unfold dbld; rw [List.drop_append_of_le_length (by omega), List.drop_of_length_le (by omega), List.nil_append]
  constructor
  · unfold lost
    rw [d1]
    have t0 : (dbld l i).take i = l.take i := by
      have : (dbld l i).take i = ((dbld l i).take (i + 1)).take i := by rw [List.take_take, Nat.min_eq_left (by omega)]
      rw [this, t1, List.take_take, Nat.min_eq_left (by omega)]
    rw [t0, List.take_append_drop]
  · unfold lost
    rw [t1]
    have d2 : (dbld l i).drop (i + 1 + 1) = l.drop (i + 1) := by
      have : (dbld l i).drop (i + 1 + 1) = ((dbld l i).drop (i + 1)).drop 1 := by rw [List.drop_drop]
      rw [this, d1, List.drop_drop]
    rw [d2, List.take_append_drop]
theorem lost_lost {α : Type} {l : List α} {i j : Nat} (h1 : i < j) (h2 : j < l.length) : lost (lost l j) i = lost (lost l i) (j - 1) := by
  apply List.ext_getElem?
  intro n
  have g : ∀ (m : List α) (k n : Nat), k < m.length → (lost m k)[n]? = if n < k then m[n]? else m[n + 1]? := by
    intro m k n hk
    unfold lost
    rw [List.getElem?_append, List.length_take, Nat.min_eq_left (by omega)]
    split
    · rw [List.getElem?_take]; simp [*]
    · rw [List.getElem?_drop]
      congr 1
      omega
  have l1 : (lost l j).length = l.length - 1 := by have := lost_len h2; omega
  have l2 : (lost l i).length = l.length - 1 := by have := lost_len (l := l) (i := i) (by omega); omega
  rw [g _ _ _ (by omega), g _ _ _ (by omega), g _ _ _ (by omega), g _ _ _ (by omega), g _ _ _ (by omega), g _ _ _ (by omega)]
  by_cases a1 : n < i
  · simp [a1, show n < j by omega, show n < j - 1 by omega]
  · by_cases a2 : n < j - 1
    · simp [a1, a2, show n + 1 < j by omega]
    · simp [a1, a2, show ¬ n + 1 < j by omega, show ¬ n + 1 < i by omega]
theorem stp_dbl_lose {P : List Int} {r : Int} {s : Wr} {t : Bool} {i j : Nat} (h : i < s.len t) (hj : j = i ∨ j = i + 1) : stp P r (stp P r s (.dbl t i)) (.lose t j) = s := by
  obtain ⟨known, got, bit, waits, there, back⟩ := s
  cases t with
  | true =>
    have q := lost_dbld (l := there) (i := i) h
    show (⟨known, got, bit, waits, lost (dbld there i) j, back⟩ : Wr) = _
    rcases hj with rfl | rfl
    · rw [q.1]
    · rw [q.2]
  | false =>
    have q := lost_dbld (l := back) (i := i) h
    show (⟨known, got, bit, waits, there, lost (dbld back i) j⟩ : Wr) = _
    rcases hj with rfl | rfl
    · rw [q.1]
    · rw [q.2]
theorem stp_lose_lose {P : List Int} {r : Int} {s : Wr} {t : Bool} {i j : Nat} (h1 : i < j) (h2 : j < s.len t) : stp P r (stp P r s (.lose t j)) (.lose t i) = stp P r (stp P r s (.lose t i)) (.lose t (j - 1)) := by
  obtain ⟨known, got, bit, waits, there, back⟩ := s
  cases t with
  | true =>
    show (⟨known, got, bit, waits, lost (lost there j) i, back⟩ : Wr) = ⟨known, got, bit, waits, lost (lost there i) (j - 1), back⟩
    rw [lost_lost h1 h2]
  | false =>
    show (⟨known, got, bit, waits, there, lost (lost back j) i⟩ : Wr) = ⟨known, got, bit, waits, there, lost (lost back i) (j - 1)⟩
    rw [lost_lost h1 h2]
theorem len_lose {P : List Int} {r : Int} {s : Wr} {t : Bool} {i : Nat} (h : i < s.len t) : (stp P r s (.lose t i)).len t + 1 = s.len t := by
  cases t with
  | true => exact lost_len (l := s.there) h
  | false => exact lost_len (l := s.back) h
theorem len_dbl {P : List Int} {r : Int} {s : Wr} {t : Bool} {i : Nat} (h : i < s.len t) : (stp P r s (.dbl t i)).len t = s.len t + 1 := by
  cases t with
  | true => exact dbld_len (l := s.there) h
  | false => exact dbld_len (l := s.back) h

/-! ### what a law tells of a wire -/
theorem ok_bits (s : Wr) : okD (bitsD s) := ok_ints [s.bit, s.waits]
theorem stand_plain (s : Wr) : plainD (standD s) = true := by
  have h1 := (ok_letters s.there).1
  have h2 := (ok_ints s.back).1
  simp [standD, plainD, plainA, h1, h2]
theorem lettersD_depth (l : List (Int × Int)) : (lettersD l).depth ≤ 2 := by
  have := lets_depth l
  simp only [lettersD, PyData.depth]; omega
theorem intsD_depth (l : List Int) : (intsD l).depth ≤ 1 := by simp only [intsD, PyData.depth, ints_depth]; omega
theorem stand_depth (s : Wr) : (standD s).depth ≤ 3 := by
  have h1 := lettersD_depth s.there
  have h2 := intsD_depth s.back
  simp only [standD, PyData.depth, PyData.depthAll]
  omega
theorem ok_stand (s : Wr) : okD (standD s) := ⟨stand_plain s, Nat.le_trans (stand_depth s) (by decide)⟩
theorem ok_tell (s : Wr) : okD (tellD s) := by
  have h1 := (ok_ints s.got).1
  have h2 := (ok_bits s).1
  have h3 := (ok_letters s.there).1
  have h4 := (ok_ints s.back).1
  have h5 := stand_plain s
  refine ⟨by simp [tellD, plainD, plainA, h1, h2, h3, h4, h5], ?_⟩
  have d1 := intsD_depth s.got
  have d2 : (bitsD s).depth ≤ 1 := intsD_depth [s.bit, s.waits]
  have d3 := lettersD_depth s.there
  have d4 := intsD_depth s.back
  have d5 := stand_depth s
  simp only [tellD, PyData.depth, PyData.depthAll]
  omega
theorem tell_rows {s s' : Wr} (h : tellD s = tellD s') (t : Bool) : s.len t = s'.len t := by
  simp only [tellD, PyData.tuple.injEq, List.cons.injEq, and_true] at h
  obtain ⟨_, _, _, h4, h5, _⟩ := h
  cases t with
  | true => show s.there.length = s'.there.length; rw [lettersD_inj h4]
  | false => show s.back.length = s'.back.length; rw [intsD_inj h5]

/-! ### all lost, then calm rounds -/
def loses (t : Bool) : Nat → List Ev
  | 0 => []
  | n + 1 => .lose t 0 :: loses t n
theorem canAll_loses {P : List Int} {r : Int} (t : Bool) : ∀ (n : Nat) {s : Wr}, s.len t = n → canAll P r s (loses t n)
  | 0, _, _ => trivial
  | n + 1, s, h => by
    have h0 : 0 < s.len t := by omega
    exact ⟨by simp only [can, decide_eq_true_eq]; exact h0, canAll_loses t n (by have := len_lose (P := P) (r := r) h0; omega)⟩
theorem calm_step {P : List Int} {r : Int} {s : Wr} (O : Ok P r s) (ht : s.there = []) (hb : s.back = []) (hk : s.known < P.length) :
    canAll P r s [.say, .hear, .heard] ∧ run P r s [.say, .hear, .heard] = { run P r s [.say, .hear, .heard] with there := [], back := [], known := s.known + 1 } := by
  have O0 := O
  obtain ⟨known, got, bit, waits, there, back⟩ := s
  simp only at ht hb hk
  subst ht hb
  have hr := O.lo
  have e1 : stp P r ⟨known, got, bit, waits, [], []⟩ .say = ⟨known, got, bit, waits, [(bit, P.getD known 0)], []⟩ := rfl
  have e2 : stp P r ⟨known, got, bit, waits, [(bit, P.getD known 0)], []⟩ .hear = ⟨known, (if bit = waits then got ++ [P.getD known 0] else got), bit, (if bit = waits then 1 - bit else waits), [], [bit]⟩ := by
    show hearS r ⟨known, got, bit, waits, [(bit, P.getD known 0)], []⟩ = _
    simp only [hearS]
    rw [if_pos (show (([] : List Int).length : Int) < r by show (0 : Int) < r; omega)]
    rfl
  have e3 : ∀ g w, stp P r ⟨known, g, bit, w, [], [bit]⟩ .heard = ⟨known + 1, g, 1 - bit, w, [], []⟩ := by
    intro g w
    show heardS P ⟨known, g, bit, w, [], [bit]⟩ = _
    simp only [heardS]
    rw [if_pos ⟨trivial, hk⟩]
  have c1 : can P r ⟨known, got, bit, waits, [], []⟩ .say = true := by
    simp only [can, Bool.and_eq_true, decide_eq_true_eq]
    exact ⟨hk, by show (0 : Int) < r; omega⟩
  constructor
  · refine ⟨c1, ?_⟩
    rw [e1]
    refine ⟨by simp [can], ?_⟩
    rw [e2]
    refine ⟨by simp [can], trivial⟩
  · have e : run P r ⟨known, got, bit, waits, [], []⟩ [.say, .hear, .heard] = stp P r (stp P r (stp P r ⟨known, got, bit, waits, [], []⟩ .say) .hear) .heard := rfl
    rw [e, e1, e2, e3]
end Dh

namespace Dh
open PySem PySem.Spec PyProof.Rows L2
def sp__law_are_changes_right (K : PySem.W.Frag) (C : Addr) : Sp := Sp3 fun pot wr rm H Q => ∃ p n w P r s, pot = .ref p ∧ PotAt H p n ∧ n ≤ 500000 ∧ wr = .ref w ∧ WireAt K C H w P r s ∧ Fit P r ∧ Ok P r s ∧ rm = .int r ∧ ∀ H', Md [p] H H' → PotAt H' p (n + 3000) → Q (.bl true) H'
def sp__law_is_emptied_right (K : PySem.W.Frag) (C : Addr) : Sp := Sp2 fun wr ps H Q => ∃ w P r s, wr = .ref w ∧ WireAt K C H w P r s ∧ Fit P r ∧ Ok P r s ∧ D K H ps (intsD P) ∧ ∀ H', Md [] H H' → Q (.bl true) H'
def sp__law_right (K : PySem.W.Frag) (C : Addr) : Sp := Sp2 fun pot many H Q => ∃ p n m, pot = .ref p ∧ PotAt H p n ∧ n ≤ 400000 ∧ many = .int (m : Nat) ∧ m ≤ 200 ∧ ∀ H', Md [p] H H' → PotAt H' p (n + 5000) → Q (.bl true) H'
def sp_law (K : PySem.W.Frag) (C : Addr) : Sp := Sp1 fun sc H Q => ∃ a, ∃ (ns : List Int), sc = .ref a ∧ SqL K H a (ns.map V.int) ∧ ns.length ≤ 63 ∧ ∀ H', Q (.bl true) H'
end Dh

namespace Dh
open PySem PySem.Spec PyProof.Rows L2
/-! ### the text by places -/
def topS (i : Nat) : Stmt := PySem.Challenge.pw_downhillnet_k12_whole_wires_lost_and_dou.main.body.getD i (.Pass ⟨0, 0, 0, 0⟩)

theorem tyT {K : PySem.W.Frag} {H : Hp} {a : Addr} {xs : List V} (h : SqT K H a xs) : TyX K H (.ref a) (.type "tuple") := by
  rcases h with (h | ⟨o, h⟩) | ⟨o, its, n, h, c, _⟩
  · exact .base (.tup h)
  · exact .fTuple h
  · exact .kTuple h c

abbrev st_is_integer : Stmt := topS 8
theorem sc_is_integer : FnScope ["value"] ["value"] (defScope st_is_integer) := ⟨rfl, rfl, rfl, by decide +kernel, rfl, by decide +kernel, by decide +kernel⟩
theorem ok_is_integer {P : Program} {w : World} {K : PySem.W.Frag} {mg : Str → Option Value} {base : Heap} {C aS aH aD f : Addr} {fd : FuncData} (F : Fun K "is_integer" "is_integer" st_is_integer f fd) (T : Txt K mg C aS aH aD)
     : FnOk P w K mg base CX0 1 f fd ["value"] (sp_is_integer K C) := by
  refine F.ok sc_is_integer (fun vs H Q E h => len1 h) (fun cdv A outer s H vs Q E hr h => ?_)
  refine ⟨_, (pss_one (ps_ret (pe_and (pe_callB call_isi (by rfl) T.b_isinstance (by decide +kernel) (pa_cons (pv 0) (pa_cons (pe_bltn (v := .ty "int") (by rfl) T.b_int (by decide +kernel) rfl) pa_nil))) (pe_one (pe_not (pe_callB call_isi (by rfl) T.b_isinstance (by decide +kernel) (pa_cons (pv 0) (pa_cons (pe_bltn (v := .ty "bool") (by rfl) T.b_bool (by decide +kernel) rfl) pa_nil)))))))), ?_⟩
  obtain ⟨a, rfl, i, rfl, k⟩ := h
  refine ⟨_, rfl, _, _, _, _, true, rfl, .ty _, .base (.int _), kit_ty (by decide +kernel), true, rfl, iteT ?_⟩
  exact ⟨_, rfl, _, _, _, _, false, rfl, .ty _, .base (.int _), kit_ty (by decide +kernel), _, rfl, k⟩

abbrev st_is_within : Stmt := topS 9
theorem sc_is_within : FnScope ["value", "least", "most"] ["value", "least", "most"] (defScope st_is_within) := ⟨rfl, rfl, rfl, by decide +kernel, rfl, by decide +kernel, by decide +kernel⟩
theorem ok_is_within {P : Program} {w : World} {K : PySem.W.Frag} {mg : Str → Option Value} {base : Heap} {C aS aH aD f : Addr} {fd : FuncData} (F : Fun K "is_within" "is_within" st_is_within f fd) (T : Txt K mg C aS aH aD)
    (f_is_integer : Cl P w K mg base 1 "is_integer" ["value"] (sp_is_integer K C)) : FnOk P w K mg base CX0 2 f fd ["value", "least", "most"] (sp_is_within K C) := by
  refine F.ok sc_is_within (fun vs H Q E h => len3 h) (fun cdv A outer s H vs Q E hr h => ?_)
  refine ⟨_, (pss_one (ps_ret (pe_and (pe_cl f_is_integer hr (by decide) (by rfl) (pa_cons (pv 0) pa_nil)) (pe_one (pe_chain op_le op_le (pv 1) (pv 0) (pv 2)))))), ?_⟩
  obtain ⟨a, b, c, rfl, i, j, l, rfl, rfl, rfl, k⟩ := h
  refine ⟨_, rfl, _, rfl, _, rfl, true, rfl, iteT ?_⟩
  refine ⟨_, rfl, _, rfl, _, _, rfl, rfl, _, rfl, rd_ifd (fun h1 => ?_) (fun h1 => ?_)⟩
  · refine ⟨_, rfl, _, _, rfl, rfl, ?_⟩
    have e : decide (j ≤ i ∧ i ≤ l) = decide (i ≤ l) := by simp [h1]
    rw [e] at k
    exact k
  · have e : decide (j ≤ i ∧ i ≤ l) = false := decide_eq_false fun z => h1 z.1
    rw [e] at k
    exact k

abbrev st_is_row : Stmt := topS 18
theorem sc_is_row : FnScope ["value", "room"] ["value", "room"] (defScope st_is_row) := ⟨rfl, rfl, rfl, by decide +kernel, rfl, by decide +kernel, by decide +kernel⟩
theorem ok_is_row {P : Program} {w : World} {K : PySem.W.Frag} {mg : Str → Option Value} {base : Heap} {C aS aH aD f : Addr} {fd : FuncData} (F : Fun K "is_row" "is_row" st_is_row f fd) (T : Txt K mg C aS aH aD)
     : FnOk P w K mg base CX0 1 f fd ["value", "room"] (sp_is_row K C) := by
  refine F.ok sc_is_row (fun vs H Q E h => len2 h) (fun cdv A outer s H vs Q E hr h => ?_)
  refine ⟨_, (pss_one (ps_ret (pe_and (pe_callB call_isi (by rfl) T.b_isinstance (by decide +kernel) (pa_cons (pv 0) (pa_cons (pe_bltn (v := .ty "tuple") (by rfl) T.b_tuple (by decide +kernel) rfl) pa_nil))) (pe_one (pe_cmpR op_le (pe_callB call_len_seq (by rfl) T.b_len (by decide +kernel) (pa_cons (pv 0) pa_nil)) (pv 1) (nomark _)))))), ?_⟩
  obtain ⟨a, b, rfl, ds, r, d, rfl, k⟩ := h
  obtain ⟨a, xs, rfl, hs, ha⟩ := d.tup_inv
  refine ⟨_, rfl, _, _, _, _, true, rfl, .ty _, tyT hs, kit_ty (by decide +kernel), true, rfl, iteT ?_⟩
  refine ⟨_, rfl, _, _, rfl, .inr hs, _, rfl, _, _, rfl, rfl, ?_⟩
  rw [ha.len]
  exact k

abbrev st_is_letter : Stmt := topS 19
theorem sc_is_letter : FnScope ["value"] ["value"] (defScope st_is_letter) := ⟨rfl, rfl, rfl, by decide +kernel, rfl, by decide +kernel, by decide +kernel⟩
theorem ok_is_letter {P : Program} {w : World} {K : PySem.W.Frag} {mg : Str → Option Value} {base : Heap} {C aS aH aD f : Addr} {fd : FuncData} (F : Fun K "is_letter" "is_letter" st_is_letter f fd) (T : Txt K mg C aS aH aD)
    (f_is_within : Cl P w K mg base 2 "is_within" ["value", "least", "most"] (sp_is_within K C))
    (f_is_integer : Cl P w K mg base 1 "is_integer" ["value"] (sp_is_integer K C)) : FnOk P w K mg base CX0 3 f fd ["value"] (sp_is_letter K C) := by
  refine F.ok sc_is_letter (fun vs H Q E h => len1 h) (fun cdv A outer s H vs Q E hr h => ?_)
  refine ⟨_, (pss_one (ps_ret (pe_and (pe_callB call_isi (by rfl) T.b_isinstance (by decide +kernel) (pa_cons (pv 0) (pa_cons (pe_bltn (v := .ty "tuple") (by rfl) T.b_tuple (by decide +kernel) rfl) pa_nil))) (pe_and (pe_cmpR op_eq (pe_callB call_len_seq (by rfl) T.b_len (by decide +kernel) (pa_cons (pv 0) pa_nil)) (pe_cst (by rfl) T.c_PAIR) (nomark _)) (pe_and (pe_cl f_is_within hr (by decide) (by rfl) (pa_cons (pe_ix ix_tup (pv 0) pe_int (fun _ _ => rfl)) (pa_cons pe_int (pa_cons pe_int pa_nil)))) (pe_one (pe_cl f_is_integer hr (by decide) (by rfl) (pa_cons (pe_ix ix_tup (pv 0) pe_int (fun _ _ => rfl)) pa_nil)))))))), ?_⟩
  obtain ⟨v, rfl, x, d, k⟩ := h
  obtain ⟨a, xs, rfl, hs, ha⟩ := d.tup_inv
  obtain rfl := (show DA K H xs ([x.1, x.2].map PyData.int) from ha).ints_inv
  refine ⟨_, rfl, _, _, _, _, true, rfl, .ty _, tyT hs, kit_ty (by decide +kernel), true, rfl, iteT ?_⟩
  refine ⟨_, rfl, _, _, rfl, .inr hs, rfl, _, rfl, ?_⟩
  refine iteT ?_
  refine ⟨_, rfl, _, _, _, _, rfl, rfl, hs, rfl, ?_⟩
  refine ⟨_, _, _, rfl, _, _, _, rfl, rfl, rfl, _, rfl, rd_ifd (fun h1 => ?_) (fun h1 => ?_)⟩
  · rw [decide_eq_true h1] at k
    refine ⟨_, rfl, _, _, _, _, rfl, rfl, hs, rfl, _, rfl, _, rfl, k⟩
  · rw [decide_eq_false h1] at k
    exact k
end Dh

namespace Dh
open PySem PySem.Spec PyProof.Rows L2

theorem sz {n m : Nat} (h : n ≤ m) (hm : m ≤ 100000 := by decide) : n ≤ sizeLine := Nat.le_trans (Nat.le_trans h hm) (by decide)
theorem szl {n m : Nat} (h : n ≤ m) (hm : m ≤ 100000 := by decide) : n < sizeLine := Nat.lt_of_le_of_lt (Nat.le_trans h hm) (by decide)
/-- the places of rows of two kinds -/
theorem filt2 (a c : Nat) (bit : Int) (hb : bit = 0 ∨ bit = 1) : fmI (fun _ x => if x = V.int bit then none else some x) 0 ((List.replicate a (1 - bit) ++ List.replicate c bit).map V.int) = (List.replicate a (1 - bit)).map V.int := by
  rw [fmI_filter (g := fun x => if x = V.int bit then none else some x) (fun _ _ => rfl), List.map_append, List.filterMap_append]
  have e1 : ∀ n : Nat, ((List.replicate n (1 - bit)).map V.int).filterMap (fun x => if x = V.int bit then none else some x) = (List.replicate n (1 - bit)).map V.int := by
    intro n
    induction n with
    | zero => rfl
    | succ n ih =>
      have hne : ¬ V.int (1 - bit) = V.int bit := fun z => by
        have : (1 - bit) = bit := by injection z
        omega
      rw [List.replicate_succ, List.map_cons, List.filterMap_cons, if_neg hne]
      simp only [ih]
  have e2 : ∀ n : Nat, ((List.replicate n bit).map V.int).filterMap (fun x => if x = V.int bit then none else some x) = [] := by
    intro n
    induction n with
    | zero => rfl
    | succ n ih => rw [List.replicate_succ, List.map_cons, List.filterMap_cons, if_pos rfl]; exact ih
  rw [e1, e2, List.append_nil]

abbrev st_changed_at : Stmt := topS 20
theorem sc_changed_at : FnScope ["bits", "bit", "at", "one"] ["bits", "bit"] (defScope st_changed_at) := ⟨rfl, rfl, rfl, by decide +kernel, rfl, by decide +kernel, by decide +kernel⟩
theorem ok_changed_at {P : Program} {w : World} {K : PySem.W.Frag} {mg : Str → Option Value} {base : Heap} {C aS aH aD f : Addr} {fd : FuncData} (F : Fun K "changed_at" "changed_at" st_changed_at f fd) (T : Txt K mg C aS aH aD)
     : FnOk P w K mg base CX0 1 f fd ["bits", "bit"] (sp_changed_at K C) := by
  refine F.ok sc_changed_at (fun vs H Q E h => len2 h) (fun cdv A outer s H vs Q E hr h => ?_)
  refine ⟨_, (pss_cons (ps_set (i := 2) sc_changed_at.nd rfl (by first | exact Or.inl rfl | exact Or.inr rfl) (pe_callB call_len_seq (by rfl) T.b_len (by decide +kernel) (pa_cons (pe_lc (own := [("one", 3)]) (by rfl) sc_changed_at.nd (pi_list (pv 0)) (blkOk_by (N := ["bits", "bit", "at", "one"]) (sc := defScope st_changed_at) (own := [("one", 3)]) (by decide +kernel)) (fun _ _ _ _ _ => (pg_name (i := 3) sc_changed_at.nd rfl (by first | exact Or.inl rfl | exact Or.inr rfl))) (fun _ _ _ _ _ => (pts_one (pt_cmpR op_ne (pv 3) (pv 1) (nomark _)))) (fun _ _ _ _ _ => (pv 3))) pa_nil)))
    (pss_one (ps_ret (pe_ifExp (pt_cmpR (op_eqD hr.units) (pv 0) (pe_op op_cat (pe_op op_rep (pe_lst (pa_cons (pe_op op_sub pe_int (pv 1)) pa_nil)) (pv 2)) (pe_op op_rep (pe_lst (pa_cons (pv 1) pa_nil)) (pe_op op_sub (pe_callB call_len_seq (by rfl) T.b_len (by decide +kernel) (pa_cons (pv 0) pa_nil)) (pv 2)))) (nomark _)) (pv 2) pe_non)))), ?_⟩
  obtain ⟨_, _, rfl, p, a, c, bit, rfl, rfl, hb, hsz, hs, k⟩ := h
  have hlen : ((List.replicate a (1 - bit) ++ List.replicate c bit).map V.int).length = a + c := by simp
  refine ⟨_, rfl, _, rfl, ⟨_, hs⟩, lc_pureL hs (szl (Nat.le_of_eq hlen) (by omega)) (fun _ x => if x = V.int bit then none else some x) ?_ ?_⟩
  · intro i x H2 R hx hm kk
    obtain ⟨j, rfl, _⟩ := map_int_get hx
    refine ⟨rfl, _, rfl, _, rfl, rfl, _, rfl, rd_ifn (fun hn => ?_) (fun hn => ?_)⟩
    · have q := kk H2 .refl
      dsimp only at q
      rw [if_neg hn] at q
      exact ⟨_, rfl, q⟩
    · have q := kk H2 .refl
      dsimp only at q
      rw [if_pos hn] at q
      exact q
  intro D H1 nD m1 hD
  rw [filt2 a c bit hb] at hD
  refine ⟨_, _, rfl, .inl (SqL.of hD), ?_⟩
  have e1 : (((List.replicate a (1 - bit)).map V.int).length : Int) = (a : Int) := by simp
  rw [e1]
  -- bits == [1 - bit] * at + [bit] * (len(bits) - at)
  refine ⟨_, rfl, _, rfl, _, _, rfl, rfl, sz (Nat.le_refl 1), ?_⟩
  intro p1 n1
  generalize e_G1 : upd _ p1 _ = G1
  have k1 : Md [] _ G1 := e_G1 ▸ Md.new n1
  have h1 : G1 p1 = some _ := e_G1 ▸ upd_same
  clear e_G1
  refine ⟨_, rfl, _, _, _, rfl, rfl, h1, (by omega), (by omega), sz (m := 1000) (by simp; omega), ?_⟩
  intro p2 n2
  generalize e_G2 : upd _ p2 _ = G2
  have k2 : Md [] _ G2 := e_G2 ▸ Md.new n2
  have h2 : G2 p2 = some _ := e_G2 ▸ upd_same
  clear e_G2
  refine ⟨_, rfl, sz (Nat.le_refl 1), ?_⟩
  intro p3 n3
  generalize e_G3 : upd _ p3 _ = G3
  have k3 : Md [] _ G3 := e_G3 ▸ Md.new n3
  have h3 : G3 p3 = some _ := e_G3 ▸ upd_same
  clear e_G3
  have m3 := ((m1.trans k1).trans k2).trans k3
  refine ⟨_, rfl, _, _, rfl, .inl (m3.sql0 hs), _, rfl, _, _, rfl, rfl, ?_⟩
  have e2 : (((List.replicate a (1 - bit) ++ List.replicate c bit).map V.int).length : Int) - (a : Int) = (c : Int) := by rw [hlen]; omega
  dsimp only
  rw [e2]
  refine ⟨_, _, _, rfl, rfl, h3, (by omega), (by omega), sz (m := 1000) (by simp; omega), ?_⟩
  intro p4 n4
  generalize e_G4 : upd _ p4 _ = G4
  have k4 : Md [] _ G4 := e_G4 ▸ Md.new n4
  have h4 : G4 p4 = some _ := e_G4 ▸ upd_same
  clear e_G4
  refine ⟨_, _, _, _, rfl, rfl, (k3.trans k4).get0 h2, h4, sz (m := 1000) (by simp [flat1]; omega), ?_⟩
  intro p5 n5
  generalize e_G5 : upd _ p5 _ = G5
  have k5 : Md [] _ G5 := e_G5 ▸ Md.new n5
  have h5 : G5 p5 = some _ := e_G5 ▸ upd_same
  clear e_G5
  have m5 := (m3.trans k4).trans k5
  have ef : (List.replicate ((a : Int)).toNat [V.int (1 - bit)]).flatten ++ (List.replicate ((c : Int)).toNat [V.int bit]).flatten = (List.replicate a (1 - bit) ++ List.replicate c bit).map V.int := by
    rw [flat1, flat1, List.map_append, List.map_replicate, List.map_replicate, Int.toNat_natCast, Int.toNat_natCast]
  rw [ef] at h5
  exact rd_eqL (m5.sql0 hs) (SqL.of h5) ⟨true, rfl, iteT ⟨_, rfl, k _ m5⟩⟩

theorem rd_elt {te : TE} {σ : L2.St} {H : Hp} {R : Option V → Hp → Prop} (h : te σ H fun y H4 => R (some y) H4) : tYes σ H fun b H3 => if b = true then te σ H3 (fun y H4 => R (some y) H4) else R none H3 := by
  show (if true = true then te σ H (fun y H4 => R (some y) H4) else R none H)
  exact iteT h
theorem lets_get {K : PySem.W.Frag} {H : Hp} {xs : List V} {l : List (Int × Int)} {i : Nat} {x : V} (h : DA K H xs (l.map letD)) (hx : xs[i]? = some x) : ∃ y, l[i]? = some y ∧ D K H x (letD y) := by
  obtain ⟨d, e, hd⟩ := h.get' hx
  rw [List.getElem?_map] at e
  cases e2 : l[i]? with
  | none => rw [e2] at e; cases e
  | some y => rw [e2] at e; cases e; exact ⟨y, rfl, hd⟩
theorem all_true {n : Nat} : (List.replicate n true).all id = true := by simp
abbrev st_are_letters : Stmt := topS 21
theorem sc_are_letters : FnScope ["row", "bit", "packets", "number", "letter"] ["row", "bit", "packets", "number"] (defScope st_are_letters) := ⟨rfl, rfl, rfl, by decide +kernel, rfl, by decide +kernel, by decide +kernel⟩
theorem ok_are_letters {P : Program} {w : World} {K : PySem.W.Frag} {mg : Str → Option Value} {base : Heap} {C aS aH aD f : Addr} {fd : FuncData} (F : Fun K "are_letters" "are_letters" st_are_letters f fd) (T : Txt K mg C aS aH aD)
     : FnOk P w K mg base CX0 1 f fd ["row", "bit", "packets", "number"] (sp_are_letters K C) := by
  refine F.ok sc_are_letters (fun vs H Q E h => len4 h) (fun cdv A outer s H vs Q E hr h => ?_)
  refine ⟨_, (pss_cons (ps_if (pt_not (pt_chain op_le op_lt pe_int (pv 3) (pe_callB call_len_seq (by rfl) T.b_len (by decide +kernel) (pa_cons (pv 2) pa_nil))))
      (pss_one (ps_ret (pe_cmpR (op_eqD hr.units) (pv 0) (pe_tup pa_nil) (nomark _))))
      pss_nil)
    (pss_one (ps_ret (pe_callB (cr_all rfl) (by rfl) T.b_all (by decide +kernel) (pa_cons (pe_lc (own := [("letter", 4)]) (by rfl) sc_are_letters.nd (pi_tup (pv 0)) (blkOk_by (N := ["row", "bit", "packets", "number", "letter"]) (sc := defScope st_are_letters) (own := [("letter", 4)]) (by decide +kernel)) (fun _ _ _ _ _ => (pg_name (i := 4) sc_are_letters.nd rfl (by first | exact Or.inl rfl | exact Or.inr rfl))) (fun _ _ _ _ _ => pts_nil) (fun _ _ _ _ _ => (pe_cmpR (op_eqDK K hr.units) (pv 4) (pe_tup (pa_cons (pv 1) (pa_cons (pe_ix (ix_tupK K) (pv 2) (pv 3) (fun _ _ => rfl)) pa_nil))) (nomark _)))) pa_nil))))), ?_⟩
  obtain ⟨_, _, _, _, rfl, l, bit, P, i, dl, rfl, dP, rfl, hz, ho, k⟩ := h
  obtain ⟨ap, xp, rfl, sp, ha⟩ := dP.tup_inv
  obtain rfl := ha.ints_inv
  obtain ⟨ar, xr, rfl, sr, hr'⟩ := id dl.tup_inv
  have hlr := hr'.len
  rw [List.length_map] at hlr
  refine ⟨_, rfl, _, _, rfl, rfl, _, rfl, rd_ifd (fun h0 => ?_) (fun h0 => ?_)⟩
  · refine ⟨_, rfl, _, _, rfl, .inr sp, _, _, rfl, rfl, _, rfl, ?_⟩
    rw [List.length_map]
    refine rd_ifn (fun h1 => ?_) (fun h1 => ?_)
    · have e := ho.1 fun z => h1 z.2
      subst e
      refine ⟨_, rfl, sz (Nat.zero_le 1), fun p np => ?_⟩
      refine rd_eq (dl.md (Md.new (ps := []) np)) (.tup (SqT.of upd_same) .nil) (ok_letters []) (ok_ints []) fun b hb => ?_
      rw [hb.mpr rfl]
      exact k _ (Md.new np)
    · have hn := ho.2 h0 h1
      refine ⟨_, rfl, _, rfl, ⟨_, sr⟩, lc_pureT sr (szl (m := 1000) (by omega)) (fun _ _ => some (.bl true)) ?_ ?_⟩
      · intro j x H2 R hx hm kk
        obtain ⟨y, hy, dy⟩ := lets_get hr' hx
        have ey := hn y (List.mem_of_getElem? hy)
        refine ⟨rfl, rd_elt ?_⟩
        refine ⟨_, rfl, _, rfl, _, rfl, _, rfl, _, _, _, V.int (P.getD i.toNat 0), rfl, rfl, hm.sqt sp, ?_, ?_⟩
        · have hi : i.toNat < P.length := by omega
          have e3 : (P.map V.int)[i.toNat]? = some (V.int (P.getD i.toNat 0)) := by
            rw [List.getElem?_map, List.getElem?_eq_getElem hi, List.getD_eq_getElem?_getD, List.getElem?_eq_getElem hi]
            rfl
          have e4 := atI_nat e3
          rw [Int.toNat_of_nonneg h0] at e4
          exact e4
        refine ⟨sz (Nat.le_refl 2), fun p np => ?_⟩
        refine rd_eq (dy.md (hm.trans (Md.new (ps := []) np))) (.tup (SqT.of upd_same) (DA.ints [bit, P.getD i.toNat 0])) (ok_let y) (ok_let (bit, P.getD i.toNat 0)) fun b hb => ?_
        rw [hb.mpr (by rw [ey]; rfl)]
        exact kk _ (Md.new np)
      · intro D H' nD m hD
        have e : fmI (fun (_ : Nat) (_ : V) => some (V.bl true)) 0 xr = (List.replicate l.length true).map V.bl := by
          rw [fmI_map (ds := l) (g := fun _ => V.bl true) hlr fun _ _ _ _ _ => rfl]
          rw [List.map_replicate]
          exact List.map_const' ..
        rw [e] at hD
        refine ⟨_, _, rfl, SqL.of hD, ?_⟩
        rw [all_true]
        exact k _ m
  · have e := ho.1 fun z => h0 z.1
    subst e
    refine ⟨_, rfl, iteT ⟨_, rfl, sz (Nat.zero_le 1), fun p np => ?_⟩⟩
    refine rd_eq (dl.md (Md.new (ps := []) np)) (.tup (SqT.of upd_same) .nil) (ok_letters []) (ok_ints []) fun b hb => ?_
    rw [hb.mpr rfl]
    exact k _ (Md.new np)
end Dh

namespace Dh
open PySem PySem.Spec PyProof.Rows L2

theorem rd_noPart {σ : L2.St} {H : Hp} {Q : Option Int → Hp → Prop} (h : Q none H) : tNoPart σ H Q := h
theorem stand_inv {K : PySem.W.Frag} {H : Hp} {v : V} {s : Wr} (h : D K H v (standD s)) : ∃ a vT vB, v = .ref a ∧ SqT K H a [.int s.known, .int s.got.length, vT, vB] ∧ D K H vT (lettersD s.there) ∧ D K H vB (intsD s.back) := by
  obtain ⟨a, xs, rfl, hs, ha⟩ := h.tup_inv
  cases ha with
  | cons h1 t => cases t with
    | cons h2 t => cases t with
      | cons h3 t => cases t with
        | cons h4 t =>
          cases t
          rw [h1.int_inv, h2.int_inv] at hs
          exact ⟨a, _, _, rfl, hs, h3, h4⟩
theorem letters_inv {K : PySem.W.Frag} {H : Hp} {v : V} {l : List (Int × Int)} (h : D K H v (lettersD l)) : ∃ a xs, v = .ref a ∧ SqT K H a xs ∧ DA K H xs (l.map letD) ∧ xs.length = l.length := by
  obtain ⟨a, xs, rfl, hs, ha⟩ := h.tup_inv
  exact ⟨a, xs, rfl, hs, ha, by rw [ha.len, List.length_map]⟩
theorem ints_inv {K : PySem.W.Frag} {H : Hp} {v : V} {l : List Int} (h : D K H v (intsD l)) : ∃ a, v = .ref a ∧ SqT K H a (l.map V.int) := by
  obtain ⟨a, xs, rfl, hs, ha⟩ := h.tup_inv
  obtain rfl := ha.ints_inv
  exact ⟨a, rfl, hs⟩
/-- all([test of x for x in ints]) where each test is true -/
theorem all_trueL (n : Nat) : (List.replicate n true).all id = true := by simp
theorem fm_const {xs : List V} {n : Nat} (h : xs.length = n) : fmI (fun _ _ => some (V.bl true)) 0 xs = (List.replicate n true).map V.bl := by
  subst h
  rw [fmI_map (ds := xs) (g := fun _ => V.bl true) rfl fun _ _ _ _ _ => rfl, List.map_replicate]
  exact List.map_const' ..

abbrev st_is_ahead : Stmt := topS 22
theorem sc_is_ahead : FnScope ["packets", "room", "standing", "bit", "known", "got", "there", "back", "at", "letter", "answer"] ["packets", "room", "standing", "bit"] (defScope st_is_ahead) := ⟨rfl, rfl, rfl, by decide +kernel, rfl, by decide +kernel, by decide +kernel⟩
theorem ok_is_ahead {P : Program} {w : World} {K : PySem.W.Frag} {mg : Str → Option Value} {base : Heap} {C aS aH aD f : Addr} {fd : FuncData} (F : Fun K "is_ahead" "is_ahead" st_is_ahead f fd) (T : Txt K mg C aS aH aD)
    (f_changed_at : Cl P w K mg base 1 "changed_at" ["bits", "bit"] (sp_changed_at K C))
    (f_are_letters : Cl P w K mg base 1 "are_letters" ["row", "bit", "packets", "number"] (sp_are_letters K C)) : FnOk P w K mg base CX0 2 f fd ["packets", "room", "standing", "bit"] (sp_is_ahead K C) := by
  refine F.ok sc_is_ahead (fun vs H Q E h => len4 h) (fun cdv A outer s H vs Q E hr h => ?_)
  refine ⟨_, (pss_cons (ps_asg (pv 2) (pg_tup rfl (pgs_cons (pg_name (i := 4) sc_is_ahead.nd rfl (by first | exact Or.inl rfl | exact Or.inr rfl)) (pgs_cons (pg_name (i := 5) sc_is_ahead.nd rfl (by first | exact Or.inl rfl | exact Or.inr rfl)) (pgs_cons (pg_name (i := 6) sc_is_ahead.nd rfl (by first | exact Or.inl rfl | exact Or.inr rfl)) (pgs_cons (pg_name (i := 7) sc_is_ahead.nd rfl (by first | exact Or.inl rfl | exact Or.inr rfl)) pgs_nil))))))
    (pss_cons (ps_set (i := 8) sc_is_ahead.nd rfl (by first | exact Or.inl rfl | exact Or.inr rfl) (pe_cl f_changed_at hr (by decide) (by rfl) (pa_cons (pe_lc (own := [("letter", 9)]) (by rfl) sc_is_ahead.nd (pi_tup (pv 6)) (blkOk_by (N := ["packets", "room", "standing", "bit", "known", "got", "there", "back", "at", "letter", "answer"]) (sc := defScope st_is_ahead) (own := [("letter", 9)]) (by decide +kernel)) (fun _ _ _ _ _ => (pg_name (i := 9) sc_is_ahead.nd rfl (by first | exact Or.inl rfl | exact Or.inr rfl))) (fun _ _ _ _ _ => pts_nil) (fun _ _ _ _ _ => (pe_ix (ix_tupK K) (pv 9) pe_int (fun _ _ => rfl)))) (pa_cons (pv 3) pa_nil))))
    (pss_cons (ps_if (PW.pt (pw_or (pt_cmpR op_isN (pv 8) pe_non (nomark _)) (pw_or1 (pt_not (pt_val (pe_cl f_are_letters hr (by decide) (by rfl) (pa_cons (pe_slice sl_tupA (pv 6) po_none (po_some (pv 8))) (pa_cons (pe_op op_sub pe_int (pv 3)) (pa_cons (pv 0) (pa_cons (pe_op op_sub (pv 4) pe_int) pa_nil))))))))))
      (pss_one (ps_ret pe_bl))
      pss_nil)
    (pss_cons (ps_if (PW.pt (pw_or (pt_not (pt_val (pe_cl f_are_letters hr (by decide) (by rfl) (pa_cons (pe_slice sl_tupA (pv 6) (po_some (pv 8)) po_none) (pa_cons (pv 3) (pa_cons (pv 0) (pa_cons (pv 4) pa_nil))))))) (pw_or1 (pt_not (pt_val (pe_callB (cr_all rfl) (by rfl) T.b_all (by decide +kernel) (pa_cons (pe_lc (own := [("answer", 10)]) (by rfl) sc_is_ahead.nd (pi_tup (pv 7)) (blkOk_by (N := ["packets", "room", "standing", "bit", "known", "got", "there", "back", "at", "letter", "answer"]) (sc := defScope st_is_ahead) (own := [("answer", 10)]) (by decide +kernel)) (fun _ _ _ _ _ => (pg_name (i := 10) sc_is_ahead.nd rfl (by first | exact Or.inl rfl | exact Or.inr rfl))) (fun _ _ _ _ _ => pts_nil) (fun _ _ _ _ _ => (pe_cmpR op_ne (pv 10) (pv 3) (nomark _)))) pa_nil)))))))
      (pss_one (ps_ret pe_bl))
      pss_nil)
    (pss_cons (ps_if (pt_cmpR op_eq (pv 4) pe_int (nomark _))
      (pss_one (ps_ret (pe_cmpR (op_eqD hr.units) (pv 7) (pe_tup pa_nil) (nomark _))))
      pss_nil)
    (pss_one (ps_ret (pe_or (pe_cmpR op_gt (pv 1) pe_int (nomark _)) (pe_or (pe_cmpR op_eq (pv 8) pe_int (nomark _)) (pe_one (pe_cmpR (op_eqD hr.units) (pv 7) (pe_tup pa_nil) (nomark _)))))))))))), ?_⟩
  obtain ⟨_, _, _, _, rfl, P, r, s0, bit, dP, rfl, dS, rfl, zt, zb, A0, k⟩ := h
  obtain ⟨hb, ⟨a, c, eT, ha, hc, hroom⟩, hback, hzero⟩ := A0
  obtain ⟨aS, vT, vB, rfl, hs, dT, dB⟩ := stand_inv dS
  obtain ⟨aT, xT, rfl, hT, hTa, hTl⟩ := letters_inv dT
  obtain ⟨aB, rfl, hB⟩ := ints_inv dB
  refine ⟨_, rfl, _, _, rfl, hs, rfl, _, _, rfl, _, _, rfl, _, _, rfl, _, _, rfl, rfl, ?_⟩
  refine ⟨_, rfl, _, rfl, ⟨_, hT⟩, lc_pureT hT (szl (m := 1000) (by omega)) (fun i _ => (s0.there[i]?).map fun y => V.int y.1) ?_ ?_⟩
  · intro i x H2 R hx hm kk
    obtain ⟨y, hy, dy⟩ := lets_get hTa hx
    obtain ⟨ay, ey, hsy⟩ : ∃ ay, x = .ref ay ∧ SqT K H ay [.int y.1, .int y.2] := ints_inv (l := [y.1, y.2]) dy
    subst ey
    refine ⟨rfl, rd_elt ?_⟩
    refine ⟨_, rfl, _, _, _, _, rfl, rfl, hm.sqt hsy, rfl, ?_⟩
    have q := kk H2 .refl
    simp only [hy, Option.map_some] at q
    exact q
  intro D G1 nD k1 hD
  have e1 : fmI (fun i _ => (s0.there[i]?).map fun y => V.int y.1) 0 xT = (List.replicate a (1 - bit) ++ List.replicate c bit).map V.int := by
    rw [fmI_map (ds := s0.there) (g := fun y => V.int y.1) hTl fun i x d _ e => by rw [Nat.zero_add, e]; rfl, eT]
    simp [List.map_append, List.map_replicate]
  rw [e1] at hD
  have hac : a + c ≤ 1000 := by
    have q := congrArg List.length eT
    simp at q
    omega
  refine ⟨_, rfl, _, _, rfl, _, a, c, bit, rfl, rfl, hb, hac, SqL.of hD, fun G2 k2 => ?_⟩
  have m2 := k1.trans k2
  -- at is None or not are_letters(there[:at], 1 - bit, packets, known - 1)
  refine ⟨_, rfl, rfl, _, rfl, rd_ifd (fun z => nomatch z) (fun _ => ?_)⟩
  refine ⟨_, rfl, _, rfl, _, rfl, rd_slTo (n := a) (dT.md m2) fun v1 G3 k3 d1 => ?_⟩
  have et1 : (s0.there.map letD).take a = (List.replicate a (1 - bit, P.getD (s0.known - 1) 0)).map letD := by
    rw [eT, ← List.map_take, List.take_append_of_le_length (by simp), List.take_of_length_le (by simp)]
  rw [et1] at d1
  have m3 := m2.trans k3
  refine ⟨_, rfl, _, _, rfl, rfl, _, rfl, _, rfl, _, _, rfl, rfl, ?_⟩
  refine ⟨_, _, _, _, rfl, _, _, P, _, d1, rfl, dP.md m3, rfl, (by simp; omega), ⟨fun hn => ?_, fun h0 h1 x hx => ?_⟩, fun G4 k4 => ⟨_, rfl, iteF ?_⟩⟩
  · rcases ha with ha | ha
    · rw [ha]; rfl
    · exact absurd ⟨by omega, by omega⟩ hn
  · have e := (List.mem_replicate.mp hx).2
    rw [e]
    congr 2
    omega
  have m4 := m3.trans k4
  -- not are_letters(there[at:], bit, packets, known) or not all([answer != bit for answer in back])
  refine ⟨_, rfl, _, rfl, _, rfl, ?_⟩
  refine rd_noPart ?_
  refine rd_slFrom (n := a) (dT.md m4) fun v2 G5 k5 d2 => ?_
  have et2 : (s0.there.map letD).drop a = (List.replicate c (bit, P.getD s0.known 0)).map letD := by
    rw [eT, ← List.map_drop, List.drop_append_of_le_length (by simp), List.drop_of_length_le (by simp), List.nil_append]
  rw [et2] at d2
  have m5 := m4.trans k5
  refine ⟨_, rfl, _, rfl, _, rfl, ?_⟩
  refine ⟨_, _, _, _, rfl, _, _, P, _, d2, rfl, dP.md m5, rfl, (by simp; omega), ⟨fun hn => ?_, fun h0 h1 x hx => ?_⟩, fun G6 k6 => ⟨_, rfl, iteF ?_⟩⟩
  · rcases hc with hc | hc
    · rw [hc]; rfl
    · exact absurd ⟨by omega, by omega⟩ hn
  · have e := (List.mem_replicate.mp hx).2
    rw [e]
    rfl
  have m6 := m5.trans k6
  refine ⟨_, rfl, _, rfl, ⟨_, m6.sqt hB⟩, lc_pureT (m6.sqt hB) (szl (m := 1000) (by simp; omega)) (fun _ _ => some (.bl true)) ?_ ?_⟩
  · intro i x H2 R hx hm kk
    obtain ⟨j, rfl, hj⟩ := map_int_get hx
    have ej := hback j (List.mem_of_getElem? hj)
    refine ⟨rfl, rd_elt ?_⟩
    refine ⟨_, rfl, _, rfl, rfl, ?_⟩
    have e : (!decide (V.int j = V.int bit)) = true := by
      rw [Bool.not_eq_true', decide_eq_false_iff_not]
      intro z
      injection z with z
      omega
    rw [e]
    exact kk H2 .refl
  intro D2 G7 nD2 k7 hD2
  rw [fm_const (List.length_map ..)] at hD2
  have m7 := m6.trans k7
  refine ⟨_, _, rfl, SqL.of hD2, ?_⟩
  rw [all_trueL]
  refine ⟨_, rfl, iteF ?_⟩
  refine ⟨_, rfl, rfl, _, rfl, rd_ifd (fun z => ?_) (fun z => ?_)⟩
  · have hk0 : s0.known = 0 := by injection z with z; omega
    refine ⟨_, rfl, sz (Nat.zero_le 1), ?_⟩
    intro p8 n8
    generalize e_G8 : upd _ p8 _ = G8
    have k8 : Md [] _ G8 := e_G8 ▸ Md.new n8
    have h8 : G8 p8 = some _ := e_G8 ▸ upd_same
    clear e_G8
    refine rd_eq (dB.md (m7.trans k8)) (.tup (SqT.of h8) .nil) (ok_ints _) (ok_ints []) fun b hb => ?_
    rw [hb.mpr (by rw [hzero hk0]; rfl)]
    exact k _ (m7.trans k8)
  · refine ⟨_, rfl, _, _, rfl, rfl, _, rfl, rd_ifd (fun _ => k _ m7) (fun hr1 => ?_)⟩
    refine ⟨_, rfl, rfl, _, rfl, rd_ifd (fun _ => k _ m7) (fun ha0 => ?_)⟩
    refine ⟨_, rfl, sz (Nat.zero_le 1), ?_⟩
    intro p8 n8
    generalize e_G8 : upd _ p8 _ = G8
    have k8 : Md [] _ G8 := e_G8 ▸ Md.new n8
    have h8 : G8 p8 = some _ := e_G8 ▸ upd_same
    clear e_G8
    refine rd_eq (dB.md (m7.trans k8)) (.tup (SqT.of h8) .nil) (ok_ints _) (ok_ints []) fun b hb => ?_
    have hbk : s0.back = [] := by
      rcases hroom with q | q | q
      · exact absurd q hr1
      · exact absurd (by rw [q]; rfl) ha0
      · exact q
    rw [hb.mpr (by rw [hbk]; rfl)]
    exact k _ (m7.trans k8)

abbrev st_is_behind : Stmt := topS 23
theorem sc_is_behind : FnScope ["packets", "standing", "bit", "known", "got", "there", "back", "at"] ["packets", "standing", "bit"] (defScope st_is_behind) := ⟨rfl, rfl, rfl, by decide +kernel, rfl, by decide +kernel, by decide +kernel⟩
theorem ok_is_behind {P : Program} {w : World} {K : PySem.W.Frag} {mg : Str → Option Value} {base : Heap} {C aS aH aD f : Addr} {fd : FuncData} (F : Fun K "is_behind" "is_behind" st_is_behind f fd) (T : Txt K mg C aS aH aD)
    (f_changed_at : Cl P w K mg base 1 "changed_at" ["bits", "bit"] (sp_changed_at K C))
    (f_are_letters : Cl P w K mg base 1 "are_letters" ["row", "bit", "packets", "number"] (sp_are_letters K C)) : FnOk P w K mg base CX0 2 f fd ["packets", "standing", "bit"] (sp_is_behind K C) := by
  refine F.ok sc_is_behind (fun vs H Q E h => len3 h) (fun cdv A outer s H vs Q E hr h => ?_)
  refine ⟨_, (pss_cons (ps_asg (pv 1) (pg_tup rfl (pgs_cons (pg_name (i := 3) sc_is_behind.nd rfl (by first | exact Or.inl rfl | exact Or.inr rfl)) (pgs_cons (pg_name (i := 4) sc_is_behind.nd rfl (by first | exact Or.inl rfl | exact Or.inr rfl)) (pgs_cons (pg_name (i := 5) sc_is_behind.nd rfl (by first | exact Or.inl rfl | exact Or.inr rfl)) (pgs_cons (pg_name (i := 6) sc_is_behind.nd rfl (by first | exact Or.inl rfl | exact Or.inr rfl)) pgs_nil))))))
    (pss_cons (ps_set (i := 7) sc_is_behind.nd rfl (by first | exact Or.inl rfl | exact Or.inr rfl) (pe_cl f_changed_at hr (by decide) (by rfl) (pa_cons (pe_callTy call_list_of (by rfl) T.b_list (by decide +kernel) (pa_cons (pv 6) pa_nil)) (pa_cons (pv 2) pa_nil))))
    (pss_one (ps_ret (pe_and (pe_cmpR op_notN (pv 7) pe_non (nomark _)) (pe_and (pe_cl f_are_letters hr (by decide) (by rfl) (pa_cons (pv 5) (pa_cons (pv 2) (pa_cons (pv 0) (pa_cons (pv 3) pa_nil))))) (pe_one (pe_or (pe_cmpR op_gt (pv 3) pe_int (nomark _)) (pe_one (pe_cmpR op_eq (pv 7) pe_int (nomark _))))))))))), ?_⟩
  obtain ⟨_, _, _, rfl, P, s0, bit, dP, dS, rfl, zt, zb, A0, k⟩ := h
  obtain ⟨hb, hth, a, c, eB, ha⟩ := A0
  obtain ⟨aS, vT, vB, rfl, hs, dT, dB⟩ := stand_inv dS
  obtain ⟨aB, rfl, hB⟩ := ints_inv dB
  refine ⟨_, rfl, _, _, rfl, hs, rfl, _, _, rfl, _, _, rfl, _, _, rfl, _, _, rfl, rfl, ?_⟩
  refine ⟨_, rfl, _, _, rfl, .inr hB, ?_⟩
  intro p1 n1
  generalize e_G1 : upd _ p1 _ = G1
  have k1 : Md [] _ G1 := e_G1 ▸ Md.new n1
  have h1 : G1 p1 = some _ := e_G1 ▸ upd_same
  clear e_G1
  have hac : a + c ≤ 1000 := by
    have q := congrArg List.length eB
    simp at q
    omega
  refine ⟨_, rfl, _, _, rfl, _, a, c, bit, rfl, rfl, hb, hac, SqL.of (by rw [h1, eB]), fun G2 k2 => ?_⟩
  have m2 := k1.trans k2
  refine ⟨_, rfl, rfl, _, rfl, iteT ?_⟩
  refine ⟨_, rfl, _, rfl, _, rfl, _, rfl, _, _, _, _, rfl, _, _, P, _, dT.md m2, rfl, dP.md m2, rfl, zt, hth, fun G3 k3 => ⟨_, rfl, iteT ?_⟩⟩
  have m3 := m2.trans k3
  refine ⟨_, rfl, _, _, rfl, rfl, _, rfl, rd_ifd (fun _ => k _ m3) (fun hk => ?_)⟩
  refine ⟨_, rfl, rfl, ?_⟩
  have e : decide (V.int (a : Int) = V.int 0) = true := by
    rcases ha with q | q
    · exact absurd (by show (0 : Int) < (s0.known : Int); omega) hk
    · rw [q]; rfl
  rw [e]
  exact k _ m3
end Dh

namespace Dh
open PySem PySem.Spec PyProof.Rows L2

abbrev st_is_possible : Stmt := topS 24
theorem sc_is_possible : FnScope ["packets", "room", "value", "known", "got", "there", "back", "letter", "answer"] ["packets", "room", "value"] (defScope st_is_possible) := ⟨rfl, rfl, rfl, by decide +kernel, rfl, by decide +kernel, by decide +kernel⟩
theorem ok_is_possible {P : Program} {w : World} {K : PySem.W.Frag} {mg : Str → Option Value} {base : Heap} {C aS aH aD f : Addr} {fd : FuncData} (F : Fun K "is_possible" "is_possible" st_is_possible f fd) (T : Txt K mg C aS aH aD)
    (f_is_ahead : Cl P w K mg base 2 "is_ahead" ["packets", "room", "standing", "bit"] (sp_is_ahead K C))
    (f_is_behind : Cl P w K mg base 2 "is_behind" ["packets", "standing", "bit"] (sp_is_behind K C))
    (f_is_within : Cl P w K mg base 2 "is_within" ["value", "least", "most"] (sp_is_within K C))
    (f_is_row : Cl P w K mg base 1 "is_row" ["value", "room"] (sp_is_row K C))
    (f_is_letter : Cl P w K mg base 3 "is_letter" ["value"] (sp_is_letter K C)) : FnOk P w K mg base CX0 4 f fd ["packets", "room", "value"] (sp_is_possible K C) := by
  refine F.ok sc_is_possible (fun vs H Q E h => len3 h) (fun cdv A outer s H vs Q E hr h => ?_)
  refine ⟨_, (pss_cons (ps_if (PW.pt (pw_or (pt_not (pt_val (pe_callB call_isi (by rfl) T.b_isinstance (by decide +kernel) (pa_cons (pv 2) (pa_cons (pe_bltn (v := .ty "tuple") (by rfl) T.b_tuple (by decide +kernel) rfl) pa_nil))))) (pw_or1 (pt_cmpR op_ne (pe_callB call_len_seq (by rfl) T.b_len (by decide +kernel) (pa_cons (pv 2) pa_nil)) (pe_op op_mul (pe_cst (by rfl) T.c_PAIR) (pe_cst (by rfl) T.c_PAIR)) (nomark _)))))
      (pss_one (ps_ret pe_bl))
      pss_nil)
    (pss_cons (ps_asg (pv 2) (pg_tup rfl (pgs_cons (pg_name (i := 3) sc_is_possible.nd rfl (by first | exact Or.inl rfl | exact Or.inr rfl)) (pgs_cons (pg_name (i := 4) sc_is_possible.nd rfl (by first | exact Or.inl rfl | exact Or.inr rfl)) (pgs_cons (pg_name (i := 5) sc_is_possible.nd rfl (by first | exact Or.inl rfl | exact Or.inr rfl)) (pgs_cons (pg_name (i := 6) sc_is_possible.nd rfl (by first | exact Or.inl rfl | exact Or.inr rfl)) pgs_nil))))))
    (pss_cons (ps_if (PW.pt (pw_or (pt_not (pt_val (pe_cl f_is_within hr (by decide) (by rfl) (pa_cons (pv 3) (pa_cons pe_int (pa_cons (pe_callB call_len_seq (by rfl) T.b_len (by decide +kernel) (pa_cons (pv 0) pa_nil)) pa_nil)))))) (pw_or1 (pt_not (pt_val (pe_cl f_is_within hr (by decide) (by rfl) (pa_cons (pv 4) (pa_cons (pv 3) (pa_cons (pe_callB (cr_min rfl) (by rfl) T.b_min (by decide +kernel) (pa_cons (pe_lst (pa_cons (pe_op op_add (pv 3) pe_int) (pa_cons (pe_callB call_len_seq (by rfl) T.b_len (by decide +kernel) (pa_cons (pv 0) pa_nil)) pa_nil))) pa_nil)) pa_nil)))))))))
      (pss_one (ps_ret pe_bl))
      pss_nil)
    (pss_cons (ps_if (PW.pt (pw_or (pt_not (pt_val (pe_cl f_is_row hr (by decide) (by rfl) (pa_cons (pv 5) (pa_cons (pv 1) pa_nil))))) (pw_or (pt_not (pt_val (pe_cl f_is_row hr (by decide) (by rfl) (pa_cons (pv 6) (pa_cons (pv 1) pa_nil))))) (pw_or1 (pt_not (pt_val (pe_callB (cr_all rfl) (by rfl) T.b_all (by decide +kernel) (pa_cons (pe_lc (own := [("letter", 7)]) (by rfl) sc_is_possible.nd (pi_tup (pv 5)) (blkOk_by (N := ["packets", "room", "value", "known", "got", "there", "back", "letter", "answer"]) (sc := defScope st_is_possible) (own := [("letter", 7)]) (by decide +kernel)) (fun _ _ _ _ _ => (pg_name (i := 7) sc_is_possible.nd rfl (by first | exact Or.inl rfl | exact Or.inr rfl))) (fun _ _ _ _ _ => pts_nil) (fun _ _ _ _ _ => (pe_cl f_is_letter hr (by decide) (by rfl) (pa_cons (pv 7) pa_nil)))) pa_nil))))))))
      (pss_one (ps_ret pe_bl))
      pss_nil)
    (pss_cons (ps_if (pt_not (pt_val (pe_callB (cr_all rfl) (by rfl) T.b_all (by decide +kernel) (pa_cons (pe_lc (own := [("answer", 8)]) (by rfl) sc_is_possible.nd (pi_tup (pv 6)) (blkOk_by (N := ["packets", "room", "value", "known", "got", "there", "back", "letter", "answer"]) (sc := defScope st_is_possible) (own := [("answer", 8)]) (by decide +kernel)) (fun _ _ _ _ _ => (pg_name (i := 8) sc_is_possible.nd rfl (by first | exact Or.inl rfl | exact Or.inr rfl))) (fun _ _ _ _ _ => pts_nil) (fun _ _ _ _ _ => (pe_cl f_is_within hr (by decide) (by rfl) (pa_cons (pv 8) (pa_cons pe_int (pa_cons pe_int pa_nil)))))) pa_nil))))
      (pss_one (ps_ret pe_bl))
      pss_nil)
    (pss_one (ps_ret (pe_ifExp (pt_cmpR op_eq (pv 4) (pv 3) (nomark _)) (pe_cl f_is_ahead hr (by decide) (by rfl) (pa_cons (pv 0) (pa_cons (pv 1) (pa_cons (pv 2) (pa_cons (pe_op op_mod (pv 3) (pe_cst (by rfl) T.c_PAIR)) pa_nil))))) (pe_cl f_is_behind hr (by decide) (by rfl) (pa_cons (pv 0) (pa_cons (pv 2) (pa_cons (pe_op op_mod (pv 3) (pe_cst (by rfl) T.c_PAIR)) pa_nil)))))))))))), ?_⟩
  obtain ⟨_, _, _, rfl, P, r, s0, dP, rfl, dS, A0, k⟩ := h
  obtain ⟨aS, vT, vB, rfl, hs, dT, dB⟩ := stand_inv dS
  obtain ⟨aT, xT, rfl, hT, hTa, hTl⟩ := letters_inv dT
  obtain ⟨aB, rfl, hB⟩ := ints_inv dB
  obtain ⟨aP, rfl, hP⟩ := ints_inv dP
  have zt : s0.there.length ≤ 1000 := by have := A0.sz.there; have := A0.fit.hi; omega
  have zb : s0.back.length ≤ 1000 := by have := A0.sz.back; have := A0.fit.hi; omega
  refine ⟨_, rfl, _, _, _, _, true, rfl, .ty _, tyT hs, kit_ty (by decide +kernel), true, rfl, iteF ?_⟩
  refine ⟨_, rfl, _, _, rfl, .inr hs, _, _, rfl, rfl, .inl ⟨by decide, by decide⟩, rfl, _, rfl, iteF ?_⟩
  refine ⟨_, rfl, _, _, rfl, hs, rfl, _, _, rfl, _, _, rfl, _, _, rfl, _, _, rfl, rfl, ?_⟩
  -- known, got
  refine ⟨_, rfl, _, rfl, _, _, rfl, .inr hP, _, _, _, rfl, _, _, _, rfl, rfl, rfl, ?_⟩
  have e1 : decide ((0 : Int) ≤ s0.known ∧ (s0.known : Int) ≤ ((P.map V.int).length : Nat)) = true := decide_eq_true ⟨by omega, by rw [List.length_map]; have := A0.sz.known; omega⟩
  rw [e1]
  refine ⟨_, rfl, iteF ?_⟩
  refine ⟨_, rfl, _, rfl, _, rfl, _, _, rfl, rfl, _, rfl, _, _, rfl, .inr hP, sz (Nat.le_refl 2), ?_⟩
  intro p1 n1
  generalize e_G1 : upd _ p1 _ = G1
  have k1 : Md [] _ G1 := e_G1 ▸ Md.new n1
  have h1 : G1 p1 = some _ := e_G1 ▸ upd_same
  clear e_G1
  refine ⟨_, [(s0.known : Int) + 1, (P.length : Int)], rfl, SqL.of (by rw [h1, List.length_map]; rfl), Nat.succ_pos _, fun m hm hle => ?_⟩
  refine ⟨_, _, _, rfl, _, _, _, rfl, rfl, rfl, ?_⟩
  have e2 : decide ((s0.known : Int) ≤ s0.got.length ∧ (s0.got.length : Int) ≤ m) = true := by
    refine decide_eq_true ⟨?_, ?_⟩
    · rcases A0.gk with q | q <;> omega
    · have h2 := A0.gp
      simp only [List.mem_cons, List.not_mem_nil, or_false] at hm
      rcases hm with q | q
      · rcases A0.gk with q' | q' <;> omega
      · omega
  rw [e2]
  refine ⟨_, rfl, iteF ?_⟩
  -- is_row(there, room), is_row(back, room), letters
  refine ⟨_, rfl, _, rfl, _, _, rfl, _, _, dT.md k1, rfl, ?_⟩
  have e3 : decide (((s0.there.map letD).length : Int) ≤ r) = true := decide_eq_true (by rw [List.length_map]; exact A0.sz.there)
  rw [e3]
  refine ⟨_, rfl, iteF ?_⟩
  refine ⟨_, rfl, _, rfl, _, _, rfl, _, _, dB.md k1, rfl, ?_⟩
  have e4 : decide (((s0.back.map PyData.int).length : Int) ≤ r) = true := decide_eq_true (by rw [List.length_map]; exact A0.sz.back)
  rw [e4]
  refine ⟨_, rfl, iteF ?_⟩
  refine ⟨_, rfl, _, rfl, ⟨_, k1.sqt hT⟩, lc_pureT (k1.sqt hT) (szl (m := 1000) (by omega)) (fun _ _ => some (.bl true)) ?_ ?_⟩
  · intro i x H2 R hx hm kk
    obtain ⟨y, hy, dy⟩ := lets_get hTa hx
    refine ⟨rfl, rd_elt ?_⟩
    refine ⟨_, rfl, _, rfl, _, dy.md (k1.trans hm), ?_⟩
    have e : decide (0 ≤ y.1 ∧ y.1 ≤ 1) = true := decide_eq_true (by rcases A0.lets y (List.mem_of_getElem? hy) with q | q <;> omega)
    rw [e]
    exact kk H2 .refl
  intro D2 G2 nD2 k2 hD2
  rw [fm_const hTl] at hD2
  have m2 := k1.trans k2
  refine ⟨_, _, rfl, SqL.of hD2, ?_⟩
  rw [all_trueL]
  refine ⟨_, rfl, iteF ?_⟩
  refine ⟨_, rfl, _, rfl, ⟨_, m2.sqt hB⟩, lc_pureT (m2.sqt hB) (szl (m := 1000) (by simp; omega)) (fun _ _ => some (.bl true)) ?_ ?_⟩
  · intro i x H2 R hx hm kk
    obtain ⟨j, rfl, hj⟩ := map_int_get hx
    refine ⟨rfl, rd_elt ?_⟩
    refine ⟨_, rfl, _, _, _, rfl, _, _, _, rfl, rfl, rfl, ?_⟩
    have e : decide (0 ≤ j ∧ j ≤ 1) = true := decide_eq_true (by rcases A0.answ j (List.mem_of_getElem? hj) with q | q <;> omega)
    rw [e]
    exact kk H2 .refl
  intro D3 G3 nD3 k3 hD3
  rw [fm_const (List.length_map ..)] at hD3
  have m3 := m2.trans k3
  refine ⟨_, _, rfl, SqL.of hD3, ?_⟩
  rw [all_trueL]
  refine ⟨_, rfl, iteF ?_⟩
  have em : ((s0.known : Int) % 2) = ((s0.known % 2 : Nat) : Int) := by omega
  refine ⟨_, rfl, _, rfl, rfl, _, rfl, rd_ifd (fun z => ?_) (fun z => ?_)⟩
  · have hg : s0.got.length = s0.known := by injection z with z; omega
    refine ⟨_, rfl, _, rfl, _, rfl, _, rfl, _, _, rfl, rfl, (by show (0 : Int) < 2; decide), ?_⟩
    refine ⟨_, _, _, _, rfl, P, r, s0, _, dP.md m3, rfl, dS.md m3, rfl, zt, zb, ?_, fun G4 k4 => k _ (m3.trans k4)⟩
    rw [em]
    exact A0.ah hg
  · have hg : s0.got.length = s0.known + 1 := by
      rcases A0.gk with q | q
      · exact absurd (by rw [q]) z
      · exact q
    refine ⟨_, rfl, _, rfl, _, rfl, _, _, rfl, rfl, (by show (0 : Int) < 2; decide), ?_⟩
    refine ⟨_, _, _, rfl, P, s0, _, dP.md m3, dS.md m3, rfl, zt, zb, ?_, fun G4 k4 => k _ (m3.trans k4)⟩
    rw [em]
    exact A0.be hg

abbrev st_check_packets : Stmt := topS 32
theorem sc_check_packets : FnScope ["packets", "most", "packet"] ["packets", "most"] (defScope st_check_packets) := ⟨rfl, rfl, rfl, by decide +kernel, rfl, by decide +kernel, by decide +kernel⟩
theorem ok_check_packets {P : Program} {w : World} {K : PySem.W.Frag} {mg : Str → Option Value} {base : Heap} {C aS aH aD f : Addr} {fd : FuncData} (F : Fun K "check_packets" "check_packets" st_check_packets f fd) (T : Txt K mg C aS aH aD)
    (f_is_within : Cl P w K mg base 2 "is_within" ["value", "least", "most"] (sp_is_within K C)) : FnOk P w K mg base CX0 3 f fd ["packets", "most"] (sp_check_packets K C) := by
  refine F.ok sc_check_packets (fun vs H Q E h => len2 h) (fun cdv A outer s H vs Q E hr h => ?_)
  refine ⟨_, (pss_cons (ps_if (PW.pt (pw_or (pt_not (pt_val (pe_callB call_isi (by rfl) T.b_isinstance (by decide +kernel) (pa_cons (pv 0) (pa_cons (pe_bltn (v := .ty "tuple") (by rfl) T.b_tuple (by decide +kernel) rfl) pa_nil))))) (pw_or1 (pt_cmpR op_gt (pe_callB call_len_seq (by rfl) T.b_len (by decide +kernel) (pa_cons (pv 0) pa_nil)) (pv 1) (nomark _)))))
      (pss_one ps_never)
      pss_nil)
    (pss_one (ps_if (pt_not (pt_val (pe_callB (cr_all rfl) (by rfl) T.b_all (by decide +kernel) (pa_cons (pe_lc (own := [("packet", 2)]) (by rfl) sc_check_packets.nd (pi_tup (pv 0)) (blkOk_by (N := ["packets", "most", "packet"]) (sc := defScope st_check_packets) (own := [("packet", 2)]) (by decide +kernel)) (fun _ _ _ _ _ => (pg_name (i := 2) sc_check_packets.nd rfl (by first | exact Or.inl rfl | exact Or.inr rfl))) (fun _ _ _ _ _ => pts_nil) (fun _ _ _ _ _ => (pe_cl f_is_within hr (by decide) (by rfl) (pa_cons (pv 2) (pa_cons pe_int (pa_cons (pe_cst (by rfl) T.c_MOST_PACKET) pa_nil)))))) pa_nil))))
      (pss_one ps_never)
      pss_nil))), ?_⟩
  obtain ⟨_, _, rfl, P, r, dP, rfl, A0, k⟩ := h
  obtain ⟨aP, rfl, hP⟩ := ints_inv dP
  refine ⟨_, rfl, _, _, _, _, true, rfl, .ty _, tyT hP, kit_ty (by decide +kernel), true, rfl, iteF ?_⟩
  refine ⟨_, rfl, _, _, rfl, .inr hP, _, rfl, _, _, rfl, rfl, _, rfl, rd_ifd (fun z => ?_) (fun _ => ?_)⟩
  · have := A0.len
    rw [List.length_map] at z
    omega
  refine ⟨_, rfl, _, rfl, ⟨_, hP⟩, lc_pureT hP (szl (m := 1000) (by have := A0.len; simp; omega)) (fun _ _ => some (.bl true)) ?_ ?_⟩
  · intro i x H2 R hx hm kk
    obtain ⟨j, rfl, hj⟩ := map_int_get hx
    refine ⟨rfl, rd_elt ?_⟩
    refine ⟨_, rfl, _, _, _, rfl, _, _, _, rfl, rfl, rfl, ?_⟩
    have e : decide (0 ≤ j ∧ j ≤ 1000000) = true := decide_eq_true (A0.all j (List.mem_of_getElem? hj))
    rw [e]
    exact kk H2 .refl
  intro D3 G3 nD3 k3 hD3
  rw [fm_const (List.length_map ..)] at hD3
  refine ⟨_, _, rfl, SqL.of hD3, ?_⟩
  rw [all_trueL]
  exact ⟨_, rfl, iteF (k _ k3)⟩

abbrev st_check_room : Stmt := topS 33
theorem sc_check_room : FnScope ["room", "most"] ["room", "most"] (defScope st_check_room) := ⟨rfl, rfl, rfl, by decide +kernel, rfl, by decide +kernel, by decide +kernel⟩
theorem ok_check_room {P : Program} {w : World} {K : PySem.W.Frag} {mg : Str → Option Value} {base : Heap} {C aS aH aD f : Addr} {fd : FuncData} (F : Fun K "check_room" "check_room" st_check_room f fd) (T : Txt K mg C aS aH aD)
    (f_is_within : Cl P w K mg base 2 "is_within" ["value", "least", "most"] (sp_is_within K C)) : FnOk P w K mg base CX0 3 f fd ["room", "most"] (sp_check_room K C) := by
  refine F.ok sc_check_room (fun vs H Q E h => len2 h) (fun cdv A outer s H vs Q E hr h => ?_)
  refine ⟨_, (pss_one (ps_if (pt_not (pt_val (pe_cl f_is_within hr (by decide) (by rfl) (pa_cons (pv 0) (pa_cons pe_int (pa_cons (pv 1) pa_nil))))))
      (pss_one ps_never)
      pss_nil)), ?_⟩
  obtain ⟨_, _, rfl, P, r, rfl, rfl, A0, k⟩ := h
  refine ⟨_, rfl, _, rfl, _, _, _, rfl, _, _, _, rfl, rfl, rfl, ?_⟩
  have e : decide (1 ≤ r ∧ r ≤ 20) = true := decide_eq_true ⟨A0.lo, A0.hi⟩
  rw [e]
  exact ⟨_, rfl, iteF k⟩

abbrev st_can_be : Stmt := topS 40
theorem sc_can_be : FnScope ["packets", "room", "value"] ["packets", "room", "value"] (defScope st_can_be) := ⟨rfl, rfl, rfl, by decide +kernel, rfl, by decide +kernel, by decide +kernel⟩
theorem ok_can_be {P : Program} {w : World} {K : PySem.W.Frag} {mg : Str → Option Value} {base : Heap} {C aS aH aD f : Addr} {fd : FuncData} (F : Fun K "can_be" "can_be" st_can_be f fd) (T : Txt K mg C aS aH aD)
    (f_check_packets : Cl P w K mg base 3 "check_packets" ["packets", "most"] (sp_check_packets K C))
    (f_check_room : Cl P w K mg base 3 "check_room" ["room", "most"] (sp_check_room K C))
    (f_is_possible : Cl P w K mg base 4 "is_possible" ["packets", "room", "value"] (sp_is_possible K C)) : FnOk P w K mg base CX0 5 f fd ["packets", "room", "value"] (sp_can_be K C) := by
  refine F.ok sc_can_be (fun vs H Q E h => len3 h) (fun cdv A outer s H vs Q E hr h => ?_)
  refine ⟨_, (pss_cons (ps_expr (pe_cl f_check_packets hr (by decide) (by rfl) (pa_cons (pv 0) (pa_cons (pe_cst (by rfl) T.c_MOST_PACKETS) pa_nil))))
    (pss_cons (ps_expr (pe_cl f_check_room hr (by decide) (by rfl) (pa_cons (pv 1) (pa_cons (pe_cst (by rfl) T.c_MOST_ROOM) pa_nil))))
    (pss_one (ps_ret (pe_cl f_is_possible hr (by decide) (by rfl) (pa_cons (pv 0) (pa_cons (pv 1) (pa_cons (pv 2) pa_nil)))))))), ?_⟩
  obtain ⟨_, _, _, rfl, P, r, s0, dP, rfl, dS, A0, k⟩ := h
  refine ⟨_, rfl, _, _, rfl, P, r, dP, rfl, A0.fit, fun G1 k1 => ?_⟩
  refine ⟨_, rfl, _, _, rfl, P, r, rfl, rfl, A0.fit, ?_⟩
  exact ⟨_, rfl, _, rfl, _, rfl, _, _, _, rfl, P, r, s0, dP.md k1, rfl, dS.md k1, A0, fun G2 k2 => k _ (k1.trans k2)⟩
end Dh

namespace Dh
open PySem PySem.Spec PyProof.Rows L2

theorem pl' {f : Str} {v : V} : ∀ {fs : List (Str × V)} {n : Nat}, fs.length ≤ n → (putF f v fs).length ≤ n + 1
  | [], n, _ => by show 1 ≤ n + 1; omega
  | (g, x) :: r, n, h => by
    rw [pt_cons]
    have h' : r.length + 1 ≤ n := h
    by_cases e : g = f
    · rw [if_pos e]; show r.length + 1 ≤ n + 1; omega
    · rw [if_neg e]
      have q := pl' (f := f) (v := v) (fs := r) (n := r.length) (Nat.le_refl _)
      show (putF f v r).length + 1 ≤ n + 1
      omega
theorem wl {vP vG vT vB : V} {r k b w : Int} : (wfs vP r k vG b w vT vB).length < 1000 := by show 8 < 1000; decide
theorem wfs_init {vP vG vT vB : V} {r : Int} : putF "own_back" vB (putF "own_there" vT (putF "own_waits" (.int 0) (putF "own_bit" (.int 0) (putF "own_got" vG (putF "own_known" (.int 0) (putF "own_room" (.int r) (putF "own_packets" vP []))))))) = wfs vP r 0 vG 0 0 vT vB := by
  unfold wfs
  simp only [show putF "own_packets" vP [] = [(("own_packets" : Str), vP)] from rfl, show ∀ f v, putF f v [] = [(f, v)] from fun _ _ => rfl, pt_cons, ne_0_1, ne_0_2, ne_0_3, ne_0_4, ne_0_5, ne_0_6, ne_0_7, ne_1_2, ne_1_3, ne_1_4, ne_1_5, ne_1_6, ne_1_7, ne_2_3, ne_2_4, ne_2_5, ne_2_6, ne_2_7, ne_3_4, ne_3_5, ne_3_6, ne_3_7, ne_4_5, ne_4_6, ne_4_7, ne_5_6, ne_5_7, ne_6_7, if_false]

abbrev st_Wire___init__ : Stmt := inClass (topS 34) 0
theorem sc_Wire___init__ : FnScope ["self", "packets", "room"] ["self", "packets", "room"] (defScope st_Wire___init__) := ⟨rfl, rfl, rfl, by decide +kernel, rfl, by decide +kernel, by decide +kernel⟩
theorem ok_Wire___init__ {P : Program} {w : World} {K : PySem.W.Frag} {mg : Str → Option Value} {base : Heap} {C aS aH aD f : Addr} {fd : FuncData} (F : Fun K "__init__" "Wire.__init__" st_Wire___init__ f fd) (T : Txt K mg C aS aH aD)
    (f_check_packets : Cl P w K mg base 3 "check_packets" ["packets", "most"] (sp_check_packets K C))
    (f_check_room : Cl P w K mg base 3 "check_room" ["room", "most"] (sp_check_room K C)) : FnOk P w K mg base CX0 4 f fd ["self", "packets", "room"] (sp_Wire___init__ K C) := by
  refine F.ok sc_Wire___init__ (fun vs H Q E h => len3 h) (fun cdv A outer s H vs Q E hr h => ?_)
  refine ⟨_, (pss_cons (ps_expr (pe_cl f_check_packets hr (by decide) (by rfl) (pa_cons (pv 1) (pa_cons (pe_cst (by rfl) T.c_MOST_PACKETS) pa_nil))))
    (pss_cons (ps_expr (pe_cl f_check_room hr (by decide) (by rfl) (pa_cons (pv 2) (pa_cons (pe_cst (by rfl) T.c_MOST_ROOM) pa_nil))))
    (pss_cons (ps_asg (pe_tup (pa_cons (pv 1) (pa_cons (pv 2) pa_nil))) (pg_tup rfl (pgs_cons (pg_fld (pv 0)) (pgs_cons (pg_fld (pv 0)) pgs_nil))))
    (pss_cons (ps_asg (pe_tup (pa_cons pe_int (pa_cons (pe_tup pa_nil) (pa_cons pe_int (pa_cons pe_int pa_nil))))) (pg_tup rfl (pgs_cons (pg_fld (pv 0)) (pgs_cons (pg_fld (pv 0)) (pgs_cons (pg_fld (pv 0)) (pgs_cons (pg_fld (pv 0)) pgs_nil))))))
    (pss_one (ps_asg (pe_tup (pa_cons (pe_tup pa_nil) (pa_cons (pe_tup pa_nil) pa_nil))) (pg_tup rfl (pgs_cons (pg_fld (pv 0)) (pgs_cons (pg_fld (pv 0)) pgs_nil))))))))), ?_⟩
  obtain ⟨_, _, _, rfl, p, dx, P, r, rfl, hp, dP, rfl, A0, k⟩ := h
  refine ⟨_, rfl, _, _, rfl, P, r, dP, rfl, A0, fun G1 k1 => ?_⟩
  refine ⟨_, rfl, _, _, rfl, P, r, rfl, rfl, A0, ?_⟩
  refine ⟨_, rfl, _, rfl, sz (Nat.le_refl 2), ?_⟩
  intro p2 n2
  generalize e_G2 : upd _ p2 _ = G2
  have k2 : Md [] _ G2 := e_G2 ▸ Md.new n2
  have h2 : G2 p2 = some _ := e_G2 ▸ upd_same
  clear e_G2
  have hp2 := (k1.trans k2).get0 hp
  refine ⟨_, _, rfl, SqT.of h2, rfl, _, _, rfl, _, rfl, _, _, _, _, rfl, hp2, T.cl, T.n_own_packets, (by decide), ?_⟩
  generalize e_G3 : upd _ p _ = G3
  have k3 : Md [p] _ G3 := e_G3 ▸ Md.mut hp2 trivial
  have h3 : G3 p = some _ := e_G3 ▸ upd_same
  clear e_G3
  refine ⟨_, _, rfl, _, rfl, _, _, _, _, rfl, h3, T.cl, T.n_own_room, Nat.lt_of_le_of_lt (pl' (Nat.zero_le 0)) (by decide), ?_⟩
  generalize e_G4 : upd _ p _ = G4
  have k4 : Md [p] _ G4 := e_G4 ▸ Md.mut h3 trivial
  have h4 : G4 p = some _ := e_G4 ▸ upd_same
  clear e_G4
  refine ⟨rfl, ?_⟩
  refine ⟨sz (Nat.zero_le 1), ?_⟩
  intro p5 n5
  generalize e_G5 : upd _ p5 _ = G5
  have k5 : Md [] _ G5 := e_G5 ▸ Md.new n5
  have h5 : G5 p5 = some _ := e_G5 ▸ upd_same
  clear e_G5
  refine ⟨sz (Nat.le_refl 4), ?_⟩
  intro p6 n6
  generalize e_G6 : upd _ p6 _ = G6
  have k6 : Md [] _ G6 := e_G6 ▸ Md.new n6
  have h6 : G6 p6 = some _ := e_G6 ▸ upd_same
  clear e_G6
  have hp6 := (k5.trans k6).get0 h4
  refine ⟨_, _, rfl, SqT.of h6, rfl, _, _, rfl, _, rfl, _, _, _, _, rfl, hp6, T.cl, T.n_own_known, Nat.lt_of_le_of_lt (pl' (pl' (Nat.zero_le 0))) (by decide), ?_⟩
  generalize e_G7 : upd _ p _ = G7
  have k7 : Md [p] _ G7 := e_G7 ▸ Md.mut hp6 trivial
  have h7 : G7 p = some _ := e_G7 ▸ upd_same
  clear e_G7
  refine ⟨_, _, rfl, _, rfl, _, _, _, _, rfl, h7, T.cl, T.n_own_got, Nat.lt_of_le_of_lt (pl' (pl' (pl' (Nat.zero_le 0)))) (by decide), ?_⟩
  generalize e_G8 : upd _ p _ = G8
  have k8 : Md [p] _ G8 := e_G8 ▸ Md.mut h7 trivial
  have h8 : G8 p = some _ := e_G8 ▸ upd_same
  clear e_G8
  refine ⟨_, _, rfl, _, rfl, _, _, _, _, rfl, h8, T.cl, T.n_own_bit, Nat.lt_of_le_of_lt (pl' (pl' (pl' (pl' (Nat.zero_le 0))))) (by decide), ?_⟩
  generalize e_G9 : upd _ p _ = G9
  have k9 : Md [p] _ G9 := e_G9 ▸ Md.mut h8 trivial
  have h9 : G9 p = some _ := e_G9 ▸ upd_same
  clear e_G9
  refine ⟨_, _, rfl, _, rfl, _, _, _, _, rfl, h9, T.cl, T.n_own_waits, Nat.lt_of_le_of_lt (pl' (pl' (pl' (pl' (pl' (Nat.zero_le 0)))))) (by decide), ?_⟩
  generalize e_G10 : upd _ p _ = G10
  have k10 : Md [p] _ G10 := e_G10 ▸ Md.mut h9 trivial
  have h10 : G10 p = some _ := e_G10 ▸ upd_same
  clear e_G10
  refine ⟨rfl, ?_⟩
  refine ⟨sz (Nat.zero_le 1), ?_⟩
  intro p11 n11
  generalize e_G11 : upd _ p11 _ = G11
  have k11 : Md [] _ G11 := e_G11 ▸ Md.new n11
  have h11 : G11 p11 = some _ := e_G11 ▸ upd_same
  clear e_G11
  refine ⟨sz (Nat.zero_le 1), ?_⟩
  intro p12 n12
  generalize e_G12 : upd _ p12 _ = G12
  have k12 : Md [] _ G12 := e_G12 ▸ Md.new n12
  have h12 : G12 p12 = some _ := e_G12 ▸ upd_same
  clear e_G12
  refine ⟨sz (Nat.le_refl 2), ?_⟩
  intro p13 n13
  generalize e_G13 : upd _ p13 _ = G13
  have k13 : Md [] _ G13 := e_G13 ▸ Md.new n13
  have h13 : G13 p13 = some _ := e_G13 ▸ upd_same
  clear e_G13
  have hp13 := ((k11.trans k12).trans k13).get0 h10
  refine ⟨_, _, rfl, SqT.of h13, rfl, _, _, rfl, _, rfl, _, _, _, _, rfl, hp13, T.cl, T.n_own_there, Nat.lt_of_le_of_lt (pl' (pl' (pl' (pl' (pl' (pl' (Nat.zero_le 0))))))) (by decide), ?_⟩
  generalize e_G14 : upd _ p _ = G14
  have k14 : Md [p] _ G14 := e_G14 ▸ Md.mut hp13 trivial
  have h14 : G14 p = some _ := e_G14 ▸ upd_same
  clear e_G14
  refine ⟨_, _, rfl, _, rfl, _, _, _, _, rfl, h14, T.cl, T.n_own_back, Nat.lt_of_le_of_lt (pl' (pl' (pl' (pl' (pl' (pl' (pl' (Nat.zero_le 0)))))))) (by decide), ?_⟩
  generalize e_G15 : upd _ p _ = G15
  have k15 : Md [p] _ G15 := e_G15 ▸ Md.mut h14 trivial
  have h15 : G15 p = some _ := e_G15 ▸ upd_same
  clear e_G15
  rw [wfs_init] at h15
  have m5 : Md [p] G5 G15 := ((((((k6.up0.trans k7).trans k8).trans k9).trans k10).trans (((k11.trans k12).trans k13).up0)).trans k14).trans k15
  have m11 : Md [p] G11 G15 := (((k12.trans k13).up0).trans k14).trans k15
  have m12 : Md [p] G12 G15 := (k13.up0.trans k14).trans k15
  have m : Md [p] H G15 := ((((k1.trans k2).up0.trans k3).trans k4).trans k5.up0).trans m5
  refine ⟨rfl, k G15 m ⟨dx, _, _, _, _, h15, dP.md m, ?_, ?_, ?_⟩⟩
  · exact (D.tup (SqT.of h5) .nil : D K G5 (.ref p5) (intsD [])).md m5
  · exact (D.tup (SqT.of h11) .nil : D K G11 (.ref p11) (lettersD [])).md m11
  · exact (D.tup (SqT.of h12) .nil : D K G12 (.ref p12) (intsD [])).md m12

abbrev st_Wire_packets : Stmt := inClass (topS 34) 1
theorem sc_Wire_packets : FnScope ["self"] ["self"] (defScope st_Wire_packets) := ⟨rfl, rfl, rfl, by decide +kernel, rfl, by decide +kernel, by decide +kernel⟩
theorem ok_Wire_packets {P : Program} {w : World} {K : PySem.W.Frag} {mg : Str → Option Value} {base : Heap} {C aS aH aD f : Addr} {fd : FuncData} (F : Fun K "packets" "Wire.packets" st_Wire_packets f fd) (T : Txt K mg C aS aH aD)
     : FnOk P w K mg base CX0 1 f fd ["self"] (sp_Wire_packets K C) := by
  refine F.ok sc_Wire_packets (fun vs H Q E h => len1 h) (fun cdv A outer s H vs Q E hr h => ?_)
  refine ⟨_, (pss_one (ps_ret (pe_fld (pv 0) rfl))), ?_⟩
  obtain ⟨_, rfl, p, P, r, s0, rfl, ⟨dx, vP, vG, vT, vB, hp, dP, dG, dT, dB⟩, k⟩ := h
  exact ⟨_, rfl, _, _, _, _, _, rfl, hp, T.cl, T.n_own_packets, lk_own_packets, k _ dP⟩
abbrev st_Wire_room : Stmt := inClass (topS 34) 2
theorem sc_Wire_room : FnScope ["self"] ["self"] (defScope st_Wire_room) := ⟨rfl, rfl, rfl, by decide +kernel, rfl, by decide +kernel, by decide +kernel⟩
theorem ok_Wire_room {P : Program} {w : World} {K : PySem.W.Frag} {mg : Str → Option Value} {base : Heap} {C aS aH aD f : Addr} {fd : FuncData} (F : Fun K "room" "Wire.room" st_Wire_room f fd) (T : Txt K mg C aS aH aD)
     : FnOk P w K mg base CX0 1 f fd ["self"] (sp_Wire_room K C) := by
  refine F.ok sc_Wire_room (fun vs H Q E h => len1 h) (fun cdv A outer s H vs Q E hr h => ?_)
  refine ⟨_, (pss_one (ps_ret (pe_fld (pv 0) rfl))), ?_⟩
  obtain ⟨_, rfl, p, P, r, s0, rfl, ⟨dx, vP, vG, vT, vB, hp, dP, dG, dT, dB⟩, k⟩ := h
  exact ⟨_, rfl, _, _, _, _, _, rfl, hp, T.cl, T.n_own_room, lk_own_room, k⟩
abbrev st_Wire_known : Stmt := inClass (topS 34) 3
theorem sc_Wire_known : FnScope ["self"] ["self"] (defScope st_Wire_known) := ⟨rfl, rfl, rfl, by decide +kernel, rfl, by decide +kernel, by decide +kernel⟩
theorem ok_Wire_known {P : Program} {w : World} {K : PySem.W.Frag} {mg : Str → Option Value} {base : Heap} {C aS aH aD f : Addr} {fd : FuncData} (F : Fun K "known" "Wire.known" st_Wire_known f fd) (T : Txt K mg C aS aH aD)
     : FnOk P w K mg base CX0 1 f fd ["self"] (sp_Wire_known K C) := by
  refine F.ok sc_Wire_known (fun vs H Q E h => len1 h) (fun cdv A outer s H vs Q E hr h => ?_)
  refine ⟨_, (pss_one (ps_ret (pe_fld (pv 0) rfl))), ?_⟩
  obtain ⟨_, rfl, p, P, r, s0, rfl, ⟨dx, vP, vG, vT, vB, hp, dP, dG, dT, dB⟩, k⟩ := h
  exact ⟨_, rfl, _, _, _, _, _, rfl, hp, T.cl, T.n_own_known, lk_own_known, k⟩
abbrev st_Wire_got : Stmt := inClass (topS 34) 4
theorem sc_Wire_got : FnScope ["self"] ["self"] (defScope st_Wire_got) := ⟨rfl, rfl, rfl, by decide +kernel, rfl, by decide +kernel, by decide +kernel⟩
theorem ok_Wire_got {P : Program} {w : World} {K : PySem.W.Frag} {mg : Str → Option Value} {base : Heap} {C aS aH aD f : Addr} {fd : FuncData} (F : Fun K "got" "Wire.got" st_Wire_got f fd) (T : Txt K mg C aS aH aD)
     : FnOk P w K mg base CX0 1 f fd ["self"] (sp_Wire_got K C) := by
  refine F.ok sc_Wire_got (fun vs H Q E h => len1 h) (fun cdv A outer s H vs Q E hr h => ?_)
  refine ⟨_, (pss_one (ps_ret (pe_fld (pv 0) rfl))), ?_⟩
  obtain ⟨_, rfl, p, P, r, s0, rfl, ⟨dx, vP, vG, vT, vB, hp, dP, dG, dT, dB⟩, k⟩ := h
  exact ⟨_, rfl, _, _, _, _, _, rfl, hp, T.cl, T.n_own_got, lk_own_got, k _ dG⟩
abbrev st_Wire_letters : Stmt := inClass (topS 34) 6
theorem sc_Wire_letters : FnScope ["self"] ["self"] (defScope st_Wire_letters) := ⟨rfl, rfl, rfl, by decide +kernel, rfl, by decide +kernel, by decide +kernel⟩
theorem ok_Wire_letters {P : Program} {w : World} {K : PySem.W.Frag} {mg : Str → Option Value} {base : Heap} {C aS aH aD f : Addr} {fd : FuncData} (F : Fun K "letters" "Wire.letters" st_Wire_letters f fd) (T : Txt K mg C aS aH aD)
     : FnOk P w K mg base CX0 1 f fd ["self"] (sp_Wire_letters K C) := by
  refine F.ok sc_Wire_letters (fun vs H Q E h => len1 h) (fun cdv A outer s H vs Q E hr h => ?_)
  refine ⟨_, (pss_one (ps_ret (pe_fld (pv 0) rfl))), ?_⟩
  obtain ⟨_, rfl, p, P, r, s0, rfl, ⟨dx, vP, vG, vT, vB, hp, dP, dG, dT, dB⟩, k⟩ := h
  exact ⟨_, rfl, _, _, _, _, _, rfl, hp, T.cl, T.n_own_there, lk_own_there, k _ dT⟩
abbrev st_Wire_answers : Stmt := inClass (topS 34) 7
theorem sc_Wire_answers : FnScope ["self"] ["self"] (defScope st_Wire_answers) := ⟨rfl, rfl, rfl, by decide +kernel, rfl, by decide +kernel, by decide +kernel⟩
theorem ok_Wire_answers {P : Program} {w : World} {K : PySem.W.Frag} {mg : Str → Option Value} {base : Heap} {C aS aH aD f : Addr} {fd : FuncData} (F : Fun K "answers" "Wire.answers" st_Wire_answers f fd) (T : Txt K mg C aS aH aD)
     : FnOk P w K mg base CX0 1 f fd ["self"] (sp_Wire_answers K C) := by
  refine F.ok sc_Wire_answers (fun vs H Q E h => len1 h) (fun cdv A outer s H vs Q E hr h => ?_)
  refine ⟨_, (pss_one (ps_ret (pe_fld (pv 0) rfl))), ?_⟩
  obtain ⟨_, rfl, p, P, r, s0, rfl, ⟨dx, vP, vG, vT, vB, hp, dP, dG, dT, dB⟩, k⟩ := h
  exact ⟨_, rfl, _, _, _, _, _, rfl, hp, T.cl, T.n_own_back, lk_own_back, k _ dB⟩
abbrev st_Wire_bits : Stmt := inClass (topS 34) 5
theorem sc_Wire_bits : FnScope ["self"] ["self"] (defScope st_Wire_bits) := ⟨rfl, rfl, rfl, by decide +kernel, rfl, by decide +kernel, by decide +kernel⟩
theorem ok_Wire_bits {P : Program} {w : World} {K : PySem.W.Frag} {mg : Str → Option Value} {base : Heap} {C aS aH aD f : Addr} {fd : FuncData} (F : Fun K "bits" "Wire.bits" st_Wire_bits f fd) (T : Txt K mg C aS aH aD)
     : FnOk P w K mg base CX0 1 f fd ["self"] (sp_Wire_bits K C) := by
  refine F.ok sc_Wire_bits (fun vs H Q E h => len1 h) (fun cdv A outer s H vs Q E hr h => ?_)
  refine ⟨_, (pss_one (ps_ret (pe_tup (pa_cons (pe_fld (pv 0) rfl) (pa_cons (pe_fld (pv 0) rfl) pa_nil))))), ?_⟩
  obtain ⟨_, rfl, p, P, r, s0, rfl, ⟨dx, vP, vG, vT, vB, hp, dP, dG, dT, dB⟩, k⟩ := h
  refine ⟨_, rfl, _, _, _, _, _, rfl, hp, T.cl, T.n_own_bit, lk_own_bit, _, rfl, _, _, _, _, _, rfl, hp, T.cl, T.n_own_waits, lk_own_waits, sz (Nat.le_refl 2), ?_⟩
  intro p1 n1
  generalize e_G1 : upd _ p1 _ = G1
  have k1 : Md [] _ G1 := e_G1 ▸ Md.new n1
  have h1 : G1 p1 = some _ := e_G1 ▸ upd_same
  clear e_G1
  exact k _ _ k1 (.tup (SqT.of h1) (DA.ints [s0.bit, s0.waits]))
abbrev st_Wire_standing : Stmt := inClass (topS 34) 8
theorem sc_Wire_standing : FnScope ["self"] ["self"] (defScope st_Wire_standing) := ⟨rfl, rfl, rfl, by decide +kernel, rfl, by decide +kernel, by decide +kernel⟩
theorem ok_Wire_standing {P : Program} {w : World} {K : PySem.W.Frag} {mg : Str → Option Value} {base : Heap} {C aS aH aD f : Addr} {fd : FuncData} (F : Fun K "standing" "Wire.standing" st_Wire_standing f fd) (T : Txt K mg C aS aH aD)
     : FnOk P w K mg base CX0 1 f fd ["self"] (sp_Wire_standing K C) := by
  refine F.ok sc_Wire_standing (fun vs H Q E h => len1 h) (fun cdv A outer s H vs Q E hr h => ?_)
  refine ⟨_, (pss_one (ps_ret (pe_tup (pa_cons (pe_fld (pv 0) rfl) (pa_cons (pe_callB call_len_seq (by rfl) T.b_len (by decide +kernel) (pa_cons (pe_fld (pv 0) rfl) pa_nil)) (pa_cons (pe_fld (pv 0) rfl) (pa_cons (pe_fld (pv 0) rfl) pa_nil))))))), ?_⟩
  obtain ⟨_, rfl, p, P, r, s0, rfl, ⟨dx, vP, vG, vT, vB, hp, dP, dG, dT, dB⟩, k⟩ := h
  obtain ⟨aG, rfl, hG⟩ := ints_inv dG
  refine ⟨_, rfl, _, _, _, _, _, rfl, hp, T.cl, T.n_own_known, lk_own_known, _, rfl, _, _, _, _, _, rfl, hp, T.cl, T.n_own_got, lk_own_got, _, _, rfl, .inr hG, _, rfl, _, _, _, _, _, rfl, hp, T.cl, T.n_own_there, lk_own_there, _, rfl, _, _, _, _, _, rfl, hp, T.cl, T.n_own_back, lk_own_back, sz (Nat.le_refl 4), ?_⟩
  intro p1 n1
  generalize e_G1 : upd _ p1 _ = G1
  have k1 : Md [] _ G1 := e_G1 ▸ Md.new n1
  have h1 : G1 p1 = some _ := e_G1 ▸ upd_same
  clear e_G1
  rw [List.length_map] at h1
  exact k _ _ k1 (.tup (SqT.of h1) (.cons (.int _) (.cons (.int _) (.cons (dT.md k1) (.cons (dB.md k1) .nil)))))
end Dh

namespace Dh
open PySem PySem.Spec PyProof.Rows L2

theorem at0 {α : Type} {x : α} {xs : List α} : atI (x :: xs) 0 = some x := atI_nat (j := 0) rfl
theorem lose_ne : ¬ (V.str "double" = V.str "lose") := by decide +kernel
abbrev st_placed : Stmt := topS 35
theorem sc_placed : FnScope ["row", "word", "place"] ["row", "word", "place"] (defScope st_placed) := ⟨rfl, rfl, rfl, by decide +kernel, rfl, by decide +kernel, by decide +kernel⟩
theorem ok_placed {P : Program} {w : World} {K : PySem.W.Frag} {mg : Str → Option Value} {base : Heap} {C aS aH aD f : Addr} {fd : FuncData} (F : Fun K "placed" "placed" st_placed f fd) (T : Txt K mg C aS aH aD)
     : FnOk P w K mg base CX0 1 f fd ["row", "word", "place"] (sp_placed K C) := by
  refine F.ok sc_placed (fun vs H Q E h => len3 h) (fun cdv A outer s H vs Q E hr h => ?_)
  refine ⟨_, (pss_cons (ps_if (pt_cmpR op_eq (pv 1) (pe_cst (by rfl) T.c_LOSE) (nomark _))
      (pss_one (ps_ret (pe_tup (StX.pa_star (pe_slice sl_tupA (pv 0) po_none (po_some (pv 2))) (StX.pa_star (pe_slice sl_tupA (pv 0) (po_some (pe_op op_add (pv 2) pe_int)) po_none) pa_nil)))))
      pss_nil)
    (pss_one (ps_ret (pe_tup (StX.pa_star (pe_slice sl_tupA (pv 0) po_none (po_some (pe_op op_add (pv 2) pe_int))) (StX.pa_star (pe_slice sl_tupA (pv 0) (po_some (pv 2)) po_none) pa_nil)))))), ?_⟩
  obtain ⟨_, _, _, rfl, ds, b, i, dR, rfl, rfl, hi, hz, k⟩ := h
  cases b with
  | true =>
    refine ⟨_, rfl, rfl, _, rfl, ?_⟩
    rw [show decide (V.str (if true = true then ("lose" : Str) else "double") = V.str "lose") = true from decide_eq_true rfl]
    refine iteT ?_
    refine ⟨_, rfl, _, rfl, _, rfl, rd_slTo (n := i) dR fun v1 G1 k1 d1 => ?_⟩
    obtain ⟨a1, x1, rfl, s1, t1⟩ := id d1.tup_inv
    refine ⟨_, _, rfl, .inl s1, ?_⟩
    refine ⟨_, rfl, _, rfl, _, _, rfl, rfl, _, rfl, rd_noPart ?_⟩
    refine rd_slFrom (n := i + 1) (dR.md k1) fun v2 G2 k2 d2 => ?_
    obtain ⟨a2, x2, rfl, s2, t2⟩ := id d2.tup_inv
    refine ⟨_, _, rfl, .inl s2, ?_⟩
    have l1 := t1.len
    have l2 := t2.len
    have t12 : DA K G2 (x1 ++ (x2 ++ [])) (lost ds i) := by
      rw [List.append_nil]
      exact (t1.md k2).append t2
    refine ⟨sz (m := 2000) (by rw [t12.len]; unfold lost; simp; omega), ?_⟩
    intro p3 n3
    generalize e_G3 : upd _ p3 _ = G3
    have k3 : Md [] _ G3 := e_G3 ▸ Md.new n3
    have h3 : G3 p3 = some _ := e_G3 ▸ upd_same
    clear e_G3
    exact k _ _ ((k1.trans k2).trans k3) (.tup (SqT.of h3) (t12.md k3))
  | false =>
    refine ⟨_, rfl, rfl, _, rfl, ?_⟩
    rw [show decide (V.str (if false = true then ("lose" : Str) else "double") = V.str "lose") = false from decide_eq_false lose_ne]
    refine iteF ?_
    refine ⟨_, rfl, _, rfl, _, _, rfl, rfl, _, rfl, rd_slTo (n := i + 1) dR fun v1 G1 k1 d1 => ?_⟩
    obtain ⟨a1, x1, rfl, s1, t1⟩ := id d1.tup_inv
    refine ⟨_, _, rfl, .inl s1, ?_⟩
    refine ⟨_, rfl, _, rfl, _, rfl, rd_noPart ?_⟩
    refine rd_slFrom (n := i) (dR.md k1) fun v2 G2 k2 d2 => ?_
    obtain ⟨a2, x2, rfl, s2, t2⟩ := id d2.tup_inv
    refine ⟨_, _, rfl, .inl s2, ?_⟩
    have t12 : DA K G2 (x1 ++ (x2 ++ [])) (dbld ds i) := by
      rw [List.append_nil]
      exact (t1.md k2).append t2
    refine ⟨sz (m := 2000) (by rw [t12.len]; unfold dbld; simp; omega), ?_⟩
    intro p3 n3
    generalize e_G3 : upd _ p3 _ = G3
    have k3 : Md [] _ G3 := e_G3 ▸ Md.new n3
    have h3 : G3 p3 = some _ := e_G3 ▸ upd_same
    clear e_G3
    exact k _ _ ((k1.trans k2).trans k3) (.tup (SqT.of h3) (t12.md k3))


abbrev st_Wire_do_hear : Stmt := inClass (topS 34) 11
theorem sc_Wire_do_hear : FnScope ["self", "bit", "packet"] ["self"] (defScope st_Wire_do_hear) := ⟨rfl, rfl, rfl, by decide +kernel, rfl, by decide +kernel, by decide +kernel⟩
theorem ok_Wire_do_hear {P : Program} {w : World} {K : PySem.W.Frag} {mg : Str → Option Value} {base : Heap} {C aS aH aD f : Addr} {fd : FuncData} (F : Fun K "do_hear" "Wire.do_hear" st_Wire_do_hear f fd) (T : Txt K mg C aS aH aD)
     : FnOk P w K mg base CX0 1 f fd ["self"] (sp_Wire_do_hear K C) := by
  refine F.ok sc_Wire_do_hear (fun vs H Q E h => len1 h) (fun cdv A outer s H vs Q E hr h => ?_)
  refine ⟨_, (pss_cons (ps_asg (pe_ix ix_tup (pe_fld (pv 0) rfl) pe_int (fun _ _ => rfl)) (pg_tup rfl (pgs_cons (pg_name (i := 1) sc_Wire_do_hear.nd rfl (by first | exact Or.inl rfl | exact Or.inr rfl)) (pgs_cons (pg_name (i := 2) sc_Wire_do_hear.nd rfl (by first | exact Or.inl rfl | exact Or.inr rfl)) pgs_nil))))
    (pss_cons (ps_fld (pv 0) (pe_slice sl_tupA (pe_fld (pv 0) rfl) (po_some pe_int) po_none) rfl)
    (pss_cons (ps_if (pt_cmpR op_eq (pv 1) (pe_fld (pv 0) rfl) (nomark _))
      (pss_one (ps_asg (pe_tup (pa_cons (pe_tup (StX.pa_star (pe_fld (pv 0) rfl) (pa_cons (pv 2) pa_nil))) (pa_cons (pe_op op_sub pe_int (pv 1)) pa_nil))) (pg_tup rfl (pgs_cons (pg_fld (pv 0)) (pgs_cons (pg_fld (pv 0)) pgs_nil)))))
      pss_nil)
    (pss_one (ps_if (pt_cmpR op_lt (pe_callB call_len_seq (by rfl) T.b_len (by decide +kernel) (pa_cons (pe_fld (pv 0) rfl) pa_nil)) (pe_fld (pv 0) rfl) (nomark _))
      (pss_one (ps_fld (pv 0) (pe_tup (StX.pa_star (pe_fld (pv 0) rfl) (pa_cons (pv 1) pa_nil))) rfl))
      pss_nil))))), ?_⟩
  obtain ⟨_, rfl, p, P, r, ⟨known, got, bit, waits, there, back⟩, rfl, ⟨dx, vP, vG, vT, vB, hp, dP, dG, dT, dB⟩, Z, hne, k⟩ := h
  have zb : (back.length : Int) ≤ 20 := Int.le_trans Z.back Z.hi
  cases there with
  | nil => exact absurd rfl hne
  | cons x t =>
    obtain ⟨aT, xT, rfl, hT, hTa, hTl⟩ := letters_inv dT
    cases hTa with
    | @cons v0 vs _ _ d0 dts =>
    obtain ⟨a0, rfl, h0⟩ := ints_inv (l := [x.1, x.2]) d0
    refine ⟨_, rfl, _, _, _, _, _, rfl, hp, T.cl, T.n_own_there, lk_own_there, _, _, _, _, rfl, rfl, hT, at0, _, _, rfl, h0, rfl, _, _, rfl, _, _, rfl, rfl, ?_⟩
    refine ⟨_, rfl, _, _, _, _, _, rfl, hp, T.cl, T.n_own_there, lk_own_there, _, rfl, rd_noPart ?_⟩
    refine rd_slFrom (n := 1) dT fun v1 G1 k1 d1 => ?_
    have h1p := k1.get0 hp
    refine ⟨_, rfl, _, _, _, _, rfl, h1p, T.cl, T.n_own_there, wl, ?_⟩
    rw [pt_own_there]
    generalize e_G2 : upd _ p _ = G2
    have k2 : Md [p] _ G2 := e_G2 ▸ Md.mut h1p trivial
    have h2 : G2 p = some _ := e_G2 ▸ upd_same
    clear e_G2
    have m2 : Md [p] H G2 := k1.up0.trans k2
    have d1' : D K G2 v1 (lettersD t) := d1.md k2
    refine ⟨_, rfl, _, rfl, _, _, _, _, _, rfl, h2, T.cl, T.n_own_waits, lk_own_waits, rfl, _, rfl, rd_ifd (fun e => ?_) (fun e => ?_)⟩
    · have ew : x.1 = waits := by injection e
      obtain ⟨aG, rfl, hG⟩ := ints_inv (dG.md m2)
      have hgot := Z.got
      simp only at hgot
      refine ⟨_, rfl, _, _, _, _, _, rfl, h2, T.cl, T.n_own_got, lk_own_got, _, _, rfl, .inl hG, _, rfl, sz (m := 2000) (by simp; omega), ?_⟩
      intro p3 n3
      generalize e_G3 : upd _ p3 _ = G3
      have k3 : Md [] _ G3 := e_G3 ▸ Md.new n3
      have h3 : G3 p3 = some _ := e_G3 ▸ upd_same
      clear e_G3
      refine ⟨_, rfl, _, _, rfl, rfl, sz (Nat.le_refl 2), ?_⟩
      intro p4 n4
      generalize e_G4 : upd _ p4 _ = G4
      have k4 : Md [] _ G4 := e_G4 ▸ Md.new n4
      have h4 : G4 p4 = some _ := e_G4 ▸ upd_same
      clear e_G4
      have h4p := (k3.trans k4).get0 h2
      refine ⟨_, _, rfl, SqT.of h4, rfl, _, _, rfl, _, rfl, _, _, _, _, rfl, h4p, T.cl, T.n_own_got, wl, ?_⟩
      rw [pt_own_got]
      generalize e_G5 : upd _ p _ = G5
      have k5 : Md [p] _ G5 := e_G5 ▸ Md.mut h4p trivial
      have h5 : G5 p = some _ := e_G5 ▸ upd_same
      clear e_G5
      refine ⟨_, _, rfl, _, rfl, _, _, _, _, rfl, h5, T.cl, T.n_own_waits, wl, ?_⟩
      rw [pt_own_waits]
      generalize e_G6 : upd _ p _ = G6
      have k6 : Md [p] _ G6 := e_G6 ▸ Md.mut h5 trivial
      have h6 : G6 p = some _ := e_G6 ▸ upd_same
      clear e_G6
      refine ⟨rfl, ?_⟩
      have m46 : Md [p] G4 G6 := k5.trans k6
      have m36 : Md [p] G3 G6 := k4.up0.trans m46
      have m26 : Md [p] G2 G6 := k3.up0.trans m36
      have m6 := m2.trans m26
      have dG6 : D K G6 (.ref p3) (intsD (got ++ [x.2])) := by
        have e : got.map V.int ++ [V.int x.2] = (got ++ [x.2]).map V.int := by simp
        rw [e] at h3
        exact (D.tup (SqT.of h3) (DA.ints _)).md m36
      have est : hearS r ⟨known, got, bit, waits, x :: t, back⟩ = ⟨known, got ++ [x.2], bit, 1 - x.1, t, if (back.length : Int) < r then back ++ [x.1] else back⟩ := by
        simp [hearS, ew]
      -- if len(self.own_back) < self.own_room: self.own_back = (*self.own_back, bit): G6 heap, m6 its Md, h6 the object, est the new state's equation, dG6 dG there, (d1'.md m26) dT there
      have dB' := dB.md m6
      obtain ⟨aB, rfl, hB⟩ := ints_inv dB'
      refine ⟨_, rfl, _, _, _, _, _, rfl, h6, T.cl, T.n_own_back, lk_own_back, _, _, rfl, .inr hB, _, rfl, _, _, _, _, _, rfl, h6, T.cl, T.n_own_room, lk_own_room, _, _, rfl, rfl, _, rfl, rd_ifd (fun hl => ?_) (fun hl => ?_)⟩
      · rw [List.length_map] at hl
        refine ⟨_, rfl, _, _, _, _, _, rfl, h6, T.cl, T.n_own_back, lk_own_back, _, _, rfl, .inl hB, _, rfl, sz (m := 2000) (by simp; omega), ?_⟩
        intro p7 n7
        generalize e_G7 : upd _ p7 _ = G7
        have k7 : Md [] _ G7 := e_G7 ▸ Md.new n7
        have h7 : G7 p7 = some _ := e_G7 ▸ upd_same
        clear e_G7
        have h7p := k7.get0 h6
        refine ⟨_, rfl, _, _, _, _, rfl, h7p, T.cl, T.n_own_back, wl, ?_⟩
        rw [pt_own_back]
        generalize e_G8 : upd _ p _ = G8
        have k8 : Md [p] _ G8 := e_G8 ▸ Md.mut h7p trivial
        have h8 : G8 p = some _ := e_G8 ▸ upd_same
        clear e_G8
        have m8 := (m6.trans k7.up0).trans k8
        refine k _ m8 ?_
        have es := est
        rw [if_pos hl] at es
        rw [es]
        have m78 := k7.up0.trans k8
        refine ⟨dx, _, _, _, _, h8, dP.md m8, (dG6).md m78, ((d1'.md m26)).md m78, D.md k8 ?_⟩
        have e : back.map V.int ++ [V.int x.1] = (back ++ [x.1]).map V.int := by simp
        rw [e] at h7
        exact .tup (SqT.of h7) (DA.ints _)
      · rw [List.length_map] at hl
        refine k _ m6 ?_
        have es := est
        rw [if_neg hl] at es
        rw [es]
        exact ⟨dx, _, _, _, _, h6, dP.md m6, dG6, (d1'.md m26), dB'⟩
    · have ew : ¬ x.1 = waits := fun z => e (by rw [z])
      have est : hearS r ⟨known, got, bit, waits, x :: t, back⟩ = ⟨known, got, bit, waits, t, if (back.length : Int) < r then back ++ [x.1] else back⟩ := by
        simp [hearS, ew]
      -- if len(self.own_back) < self.own_room: self.own_back = (*self.own_back, bit): G2 heap, m2 its Md, h2 the object, est the new state's equation, (dG.md m2) dG there, d1' dT there
      have dB' := dB.md m2
      obtain ⟨aB, rfl, hB⟩ := ints_inv dB'
      refine ⟨_, rfl, _, _, _, _, _, rfl, h2, T.cl, T.n_own_back, lk_own_back, _, _, rfl, .inr hB, _, rfl, _, _, _, _, _, rfl, h2, T.cl, T.n_own_room, lk_own_room, _, _, rfl, rfl, _, rfl, rd_ifd (fun hl => ?_) (fun hl => ?_)⟩
      · rw [List.length_map] at hl
        refine ⟨_, rfl, _, _, _, _, _, rfl, h2, T.cl, T.n_own_back, lk_own_back, _, _, rfl, .inl hB, _, rfl, sz (m := 2000) (by simp; omega), ?_⟩
        intro p7 n7
        generalize e_G7 : upd _ p7 _ = G7
        have k7 : Md [] _ G7 := e_G7 ▸ Md.new n7
        have h7 : G7 p7 = some _ := e_G7 ▸ upd_same
        clear e_G7
        have h7p := k7.get0 h2
        refine ⟨_, rfl, _, _, _, _, rfl, h7p, T.cl, T.n_own_back, wl, ?_⟩
        rw [pt_own_back]
        generalize e_G8 : upd _ p _ = G8
        have k8 : Md [p] _ G8 := e_G8 ▸ Md.mut h7p trivial
        have h8 : G8 p = some _ := e_G8 ▸ upd_same
        clear e_G8
        have m8 := (m2.trans k7.up0).trans k8
        refine k _ m8 ?_
        have es := est
        rw [if_pos hl] at es
        rw [es]
        have m78 := k7.up0.trans k8
        refine ⟨dx, _, _, _, _, h8, dP.md m8, ((dG.md m2)).md m78, (d1').md m78, D.md k8 ?_⟩
        have e : back.map V.int ++ [V.int x.1] = (back ++ [x.1]).map V.int := by simp
        rw [e] at h7
        exact .tup (SqT.of h7) (DA.ints _)
      · rw [List.length_map] at hl
        refine k _ m2 ?_
        have es := est
        rw [if_neg hl] at es
        rw [es]
        exact ⟨dx, _, _, _, _, h2, dP.md m2, (dG.md m2), d1', dB'⟩

abbrev st_Wire_do_heard : Stmt := inClass (topS 34) 12
theorem sc_Wire_do_heard : FnScope ["self", "bit"] ["self"] (defScope st_Wire_do_heard) := ⟨rfl, rfl, rfl, by decide +kernel, rfl, by decide +kernel, by decide +kernel⟩
theorem ok_Wire_do_heard {P : Program} {w : World} {K : PySem.W.Frag} {mg : Str → Option Value} {base : Heap} {C aS aH aD f : Addr} {fd : FuncData} (F : Fun K "do_heard" "Wire.do_heard" st_Wire_do_heard f fd) (T : Txt K mg C aS aH aD)
     : FnOk P w K mg base CX0 1 f fd ["self"] (sp_Wire_do_heard K C) := by
  refine F.ok sc_Wire_do_heard (fun vs H Q E h => len1 h) (fun cdv A outer s H vs Q E hr h => ?_)
  refine ⟨_, (pss_cons (ps_set (i := 1) sc_Wire_do_heard.nd rfl (by first | exact Or.inl rfl | exact Or.inr rfl) (pe_ix ix_tup (pe_fld (pv 0) rfl) pe_int (fun _ _ => rfl)))
    (pss_cons (ps_fld (pv 0) (pe_slice sl_tupA (pe_fld (pv 0) rfl) (po_some pe_int) po_none) rfl)
    (pss_one (ps_if (PW.pt (pw_and (pt_cmpR op_eq (pv 1) (pe_fld (pv 0) rfl) (nomark _)) (pw_and1 (pt_cmpR op_lt (pe_fld (pv 0) rfl) (pe_callB call_len_seq (by rfl) T.b_len (by decide +kernel) (pa_cons (pe_fld (pv 0) rfl) pa_nil)) (nomark _)))))
      (pss_one (ps_asg (pe_tup (pa_cons (pe_op op_add (pe_fld (pv 0) rfl) pe_int) (pa_cons (pe_op op_sub pe_int (pv 1)) pa_nil))) (pg_tup rfl (pgs_cons (pg_fld (pv 0)) (pgs_cons (pg_fld (pv 0)) pgs_nil)))))
      pss_nil)))), ?_⟩
  obtain ⟨_, rfl, p, P, r, ⟨known, got, bit, waits, there, back⟩, rfl, ⟨dx, vP, vG, vT, vB, hp, dP, dG, dT, dB⟩, Z, hne, k⟩ := h
  cases back with
  | nil => exact absurd rfl hne
  | cons b t =>
    obtain ⟨aB, rfl, hB⟩ := ints_inv dB
    obtain ⟨aP, rfl, hP⟩ := ints_inv dP
    refine ⟨_, rfl, _, _, _, _, _, rfl, hp, T.cl, T.n_own_back, lk_own_back, _, _, _, _, rfl, rfl, hB, at0, ?_⟩
    refine ⟨_, rfl, _, _, _, _, _, rfl, hp, T.cl, T.n_own_back, lk_own_back, _, rfl, rd_noPart ?_⟩
    refine rd_slFrom (n := 1) dB fun v1 G1 k1 d1 => ?_
    have h1p := k1.get0 hp
    refine ⟨_, rfl, _, _, _, _, rfl, h1p, T.cl, T.n_own_back, wl, ?_⟩
    rw [pt_own_back]
    generalize e_G2 : upd _ p _ = G2
    have k2 : Md [p] _ G2 := e_G2 ▸ Md.mut h1p trivial
    have h2 : G2 p = some _ := e_G2 ▸ upd_same
    clear e_G2
    have m2 : Md [p] H G2 := k1.up0.trans k2
    have d1' : D K G2 v1 (intsD t) := d1.md k2
    have keep : ¬ (b = bit ∧ known < P.length) → Q .non G2 := fun hn => by
      refine k _ m2 ?_
      have est : heardS P ⟨known, got, bit, waits, there, b :: t⟩ = ⟨known, got, bit, waits, there, t⟩ := by simp only [heardS]; rw [if_neg hn]
      rw [est]
      exact ⟨dx, _, _, _, _, h2, dP.md m2, dG.md m2, dT.md m2, d1'⟩
    refine ⟨_, rfl, _, rfl, _, _, _, _, _, rfl, h2, T.cl, T.n_own_bit, lk_own_bit, rfl, _, rfl, rd_ifd (fun e => ?_) (fun e => ?_)⟩
    · have ew : b = bit := by injection e
      refine ⟨_, rfl, _, _, _, _, _, rfl, h2, T.cl, T.n_own_known, lk_own_known, _, rfl, _, _, _, _, _, rfl, h2, T.cl, T.n_own_packets, lk_own_packets, _, _, rfl, .inr (m2.sqt hP), _, _, rfl, rfl, _, rfl, ?_⟩
      rw [List.length_map]
      refine rd_ifd (fun hl => ?_) (fun hl => ?_)
      · have hl' : (known : Int) < P.length := hl
        refine ⟨_, rfl, _, _, _, _, _, rfl, h2, T.cl, T.n_own_known, lk_own_known, _, _, rfl, rfl, _, rfl, _, _, rfl, rfl, sz (Nat.le_refl 2), ?_⟩
        intro p4 n4
        generalize e_G4 : upd _ p4 _ = G4
        have k4 : Md [] _ G4 := e_G4 ▸ Md.new n4
        have h4 : G4 p4 = some _ := e_G4 ▸ upd_same
        clear e_G4
        have h4p := k4.get0 h2
        refine ⟨_, _, rfl, SqT.of h4, rfl, _, _, rfl, _, rfl, _, _, _, _, rfl, h4p, T.cl, T.n_own_known, wl, ?_⟩
        rw [pt_own_known]
        generalize e_G5 : upd _ p _ = G5
        have k5 : Md [p] _ G5 := e_G5 ▸ Md.mut h4p trivial
        have h5 : G5 p = some _ := e_G5 ▸ upd_same
        clear e_G5
        refine ⟨_, _, rfl, _, rfl, _, _, _, _, rfl, h5, T.cl, T.n_own_bit, wl, ?_⟩
        rw [pt_own_bit]
        generalize e_G6 : upd _ p _ = G6
        have k6 : Md [p] _ G6 := e_G6 ▸ Md.mut h5 trivial
        have h6 : G6 p = some _ := e_G6 ▸ upd_same
        clear e_G6
        refine ⟨rfl, ?_⟩
        have m26 : Md [p] G2 G6 := (k4.up0.trans k5).trans k6
        have m6 := m2.trans m26
        refine k _ m6 ?_
        have est : heardS P ⟨known, got, bit, waits, there, b :: t⟩ = ⟨known + 1, got, 1 - b, waits, there, t⟩ := by simp only [heardS]; rw [if_pos ⟨ew, by omega⟩]
        rw [est]
        refine ⟨dx, _, _, _, _, ?_, dP.md m6, dG.md m6, dT.md m6, d1'.md m26⟩
        rw [h6]
        rfl
      · exact keep fun z => hl (show (known : Int) < P.length by omega)
    · exact iteF (keep fun z => e (by rw [z.1]))

abbrev st_Wire_copy : Stmt := inClass (topS 34) 14
theorem sc_Wire_copy : FnScope ["self", "found"] ["self"] (defScope st_Wire_copy) := ⟨rfl, rfl, rfl, by decide +kernel, rfl, by decide +kernel, by decide +kernel⟩
theorem ok_Wire_copy {P : Program} {w : World} {K : PySem.W.Frag} {mg : Str → Option Value} {base : Heap} {C aS aH aD f : Addr} {fd : FuncData} (F : Fun K "copy" "Wire.copy" st_Wire_copy f fd) (T : Txt K mg C aS aH aD)
    (k_Wire : Mkr P w K mg base 4 "Wire" C ["self", "packets", "room"] (sp_Wire___init__ K C)) : FnOk P w K mg base CX0 6 f fd ["self"] (sp_Wire_copy K C) := by
  refine F.ok sc_Wire_copy (fun vs H Q E h => len1 h) (fun cdv A outer s H vs Q E hr h => ?_)
  refine ⟨_, (pss_cons (ps_set (i := 1) sc_Wire_copy.nd rfl (by first | exact Or.inl rfl | exact Or.inr rfl) (pe_mkC k_Wire hr (by decide) (by rfl) (pa_cons (pe_fld (pv 0) rfl) (pa_cons (pe_fld (pv 0) rfl) pa_nil))))
    (pss_cons (ps_asg (pe_tup (pa_cons (pe_fld (pv 0) rfl) (pa_cons (pe_fld (pv 0) rfl) pa_nil))) (pg_tup rfl (pgs_cons (pg_fld (pv 1)) (pgs_cons (pg_fld (pv 1)) pgs_nil))))
    (pss_cons (ps_asg (pe_tup (pa_cons (pe_fld (pv 0) rfl) (pa_cons (pe_fld (pv 0) rfl) pa_nil))) (pg_tup rfl (pgs_cons (pg_fld (pv 1)) (pgs_cons (pg_fld (pv 1)) pgs_nil))))
    (pss_cons (ps_asg (pe_tup (pa_cons (pe_fld (pv 0) rfl) (pa_cons (pe_fld (pv 0) rfl) pa_nil))) (pg_tup rfl (pgs_cons (pg_fld (pv 1)) (pgs_cons (pg_fld (pv 1)) pgs_nil))))
    (pss_one (ps_ret (pv 1))))))), ?_⟩
  obtain ⟨_, rfl, p, P, r, s0, rfl, ⟨dx, vP, vG, vT, vB, hp, dP, dG, dT, dB⟩, A0, k⟩ := h
  refine ⟨_, rfl, _, _, _, _, _, rfl, hp, T.cl, T.n_own_packets, lk_own_packets, _, rfl, _, _, _, _, _, rfl, hp, T.cl, T.n_own_room, lk_own_room, ?_⟩
  intro x dy nx ndy nxy
  generalize e_G : upd (upd H dy (.own x)) x (.ins C dy []) = G
  have n2 : upd H dy (.own x) x = none := by rw [upd_ne (Ne.symm nxy)]; exact nx
  have k0 : Md [] H G := e_G ▸ ((Md.new ndy).trans (Md.new n2))
  have hx : G x = some (.ins C dy []) := e_G ▸ upd_same
  clear e_G
  refine ⟨_, _, _, rfl, x, dy, P, r, rfl, hx, dP.md k0, rfl, A0, fun G1 k1 w1 => ⟨rfl, ?_⟩⟩
  obtain ⟨ex, wP, wG, wT, wB, hq, eP, eG, eT, eB⟩ := w1
  have hpx : p ≠ x := ne_of_none hp nx
  have hp1 := k1.get1 (k0.get0 hp) hpx
  have M1 : Md [x] H G1 := k0.up0.trans k1
  refine ⟨_, rfl, _, _, _, _, _, rfl, hp1, T.cl, T.n_own_known, lk_own_known, _, rfl, _, _, _, _, _, rfl, hp1, T.cl, T.n_own_got, lk_own_got, sz (Nat.le_refl 2), ?_⟩
  intro p2 n2
  generalize e_G2 : upd _ p2 _ = G2
  have k2 : Md [] _ G2 := e_G2 ▸ Md.new n2
  have h2 : G2 p2 = some _ := e_G2 ▸ upd_same
  clear e_G2
  have hq2 := k2.get0 hq
  refine ⟨_, _, rfl, SqT.of h2, rfl, _, _, rfl, _, rfl, _, _, _, _, rfl, hq2, T.cl, T.n_own_known, wl, ?_⟩
  rw [pt_own_known]
  generalize e_G3 : upd _ x _ = G3
  have k3 : Md [x] _ G3 := e_G3 ▸ Md.mut hq2 trivial
  have h3 : G3 x = some _ := e_G3 ▸ upd_same
  clear e_G3
  refine ⟨_, _, rfl, _, rfl, _, _, _, _, rfl, h3, T.cl, T.n_own_got, wl, ?_⟩
  rw [pt_own_got]
  generalize e_G4 : upd _ x _ = G4
  have k4 : Md [x] _ G4 := e_G4 ▸ Md.mut h3 trivial
  have h4 : G4 x = some _ := e_G4 ▸ upd_same
  clear e_G4
  refine ⟨rfl, ?_⟩
  have M4 : Md [x] H G4 := ((M1.trans k2.up0).trans k3).trans k4
  have hp4 := M4.get1 hp hpx
  refine ⟨_, rfl, _, _, _, _, _, rfl, hp4, T.cl, T.n_own_bit, lk_own_bit, _, rfl, _, _, _, _, _, rfl, hp4, T.cl, T.n_own_waits, lk_own_waits, sz (Nat.le_refl 2), ?_⟩
  intro p5 n5
  generalize e_G5 : upd _ p5 _ = G5
  have k5 : Md [] _ G5 := e_G5 ▸ Md.new n5
  have h5 : G5 p5 = some _ := e_G5 ▸ upd_same
  clear e_G5
  have hq5 := k5.get0 h4
  refine ⟨_, _, rfl, SqT.of h5, rfl, _, _, rfl, _, rfl, _, _, _, _, rfl, hq5, T.cl, T.n_own_bit, wl, ?_⟩
  rw [pt_own_bit]
  generalize e_G6 : upd _ x _ = G6
  have k6 : Md [x] _ G6 := e_G6 ▸ Md.mut hq5 trivial
  have h6 : G6 x = some _ := e_G6 ▸ upd_same
  clear e_G6
  refine ⟨_, _, rfl, _, rfl, _, _, _, _, rfl, h6, T.cl, T.n_own_waits, wl, ?_⟩
  rw [pt_own_waits]
  generalize e_G7 : upd _ x _ = G7
  have k7 : Md [x] _ G7 := e_G7 ▸ Md.mut h6 trivial
  have h7 : G7 x = some _ := e_G7 ▸ upd_same
  clear e_G7
  refine ⟨rfl, ?_⟩
  have M7 : Md [x] H G7 := ((M4.trans k5.up0).trans k6).trans k7
  have hp7 := M7.get1 hp hpx
  refine ⟨_, rfl, _, _, _, _, _, rfl, hp7, T.cl, T.n_own_there, lk_own_there, _, rfl, _, _, _, _, _, rfl, hp7, T.cl, T.n_own_back, lk_own_back, sz (Nat.le_refl 2), ?_⟩
  intro p8 n8
  generalize e_G8 : upd _ p8 _ = G8
  have k8 : Md [] _ G8 := e_G8 ▸ Md.new n8
  have h8 : G8 p8 = some _ := e_G8 ▸ upd_same
  clear e_G8
  have hq8 := k8.get0 h7
  refine ⟨_, _, rfl, SqT.of h8, rfl, _, _, rfl, _, rfl, _, _, _, _, rfl, hq8, T.cl, T.n_own_there, wl, ?_⟩
  rw [pt_own_there]
  generalize e_G9 : upd _ x _ = G9
  have k9 : Md [x] _ G9 := e_G9 ▸ Md.mut hq8 trivial
  have h9 : G9 x = some _ := e_G9 ▸ upd_same
  clear e_G9
  refine ⟨_, _, rfl, _, rfl, _, _, _, _, rfl, h9, T.cl, T.n_own_back, wl, ?_⟩
  rw [pt_own_back]
  generalize e_G10 : upd _ x _ = G10
  have k10 : Md [x] _ G10 := e_G10 ▸ Md.mut h9 trivial
  have h10 : G10 x = some _ := e_G10 ▸ upd_same
  clear e_G10
  refine ⟨rfl, ?_⟩
  have M10 : Md [x] H G10 := ((M7.trans k8.up0).trans k9).trans k10
  have m1 : Md [x] G1 G10 := (((((((((k2.up0 : Md [x] _ _).trans k3).trans k4).trans k5.up0).trans k6).trans k7).trans k8.up0).trans k9).trans k10)
  exact ⟨_, rfl, k x G10 nx (M10.drop nx) ⟨ex, _, _, _, _, h10, eP.md m1, dG.md M10, dT.md M10, dB.md M10⟩⟩
end Dh

namespace Dh
open PySem PySem.Spec PyProof.Rows L2

theorem rd_c {v : V} {σ : L2.St} {H : Hp} {Q : VK} (h : Q v H) : tC v σ H Q := h
theorem rd_true {b : Bool} {A B : Prop} (e : b = true) (h : A) : if b = true then A else B := by rw [if_pos e]; exact h
theorem rd_false {b : Bool} {A B : Prop} (e : b = false) (h : B) : if b = true then A else B := by rw [e]; exact iteF h
theorem placed_inv {K : PySem.W.Frag} {H : Hp} {v : V} {l t : Bool} {i : Nat} (h : D K H v (Ev.d (if l then .lose t i else .dbl t i))) : ∃ a, v = .ref a ∧ SqT K H a [.str (if l then "lose" else "double"), .str (chan t), .int i] := by
  cases l <;>
  · obtain ⟨a, xs, rfl, hs, ha⟩ := h.tup_inv
    cases ha with
    | cons h1 t1 => cases t1 with
      | cons h2 t2 => cases t2 with
        | cons h3 t3 =>
          cases t3
          rw [h1.str_inv, h2.str_inv, h3.int_inv] at hs
          exact ⟨a, rfl, hs⟩
theorem one_inv {K : PySem.W.Frag} {H : Hp} {v : V} {x : Str} (h : D K H v (.tuple [.str x])) : ∃ a, v = .ref a ∧ SqT K H a [.str x] := by
  obtain ⟨a, xs, rfl, hs, ha⟩ := h.tup_inv
  cases ha with
  | cons h1 t1 =>
    cases t1
    rw [h1.str_inv] at hs
    exact ⟨a, rfl, hs⟩


abbrev st_can_place : Stmt := topS 37
theorem sc_can_place : FnScope ["wire", "event", "word", "channel", "place", "row"] ["wire", "event"] (defScope st_can_place) := ⟨rfl, rfl, rfl, by decide +kernel, rfl, by decide +kernel, by decide +kernel⟩
theorem ok_can_place {P : Program} {w : World} {K : PySem.W.Frag} {mg : Str → Option Value} {base : Heap} {C aS aH aD f : Addr} {fd : FuncData} (F : Fun K "can_place" "can_place" st_can_place f fd) (T : Txt K mg C aS aH aD)
    (f_is_within : Cl P w K mg base 2 "is_within" ["value", "least", "most"] (sp_is_within K C)) : FnOk P w K mg base CX0 3 f fd ["wire", "event"] (sp_can_place K C) := by
  refine F.ok sc_can_place (fun vs H Q E h => len2 h) (fun cdv A outer s H vs Q E hr h => ?_)
  refine ⟨_, (pss_cons (ps_asg (pv 1) (pg_tup rfl (pgs_cons (pg_name (i := 2) sc_can_place.nd rfl (by first | exact Or.inl rfl | exact Or.inr rfl)) (pgs_cons (pg_name (i := 3) sc_can_place.nd rfl (by first | exact Or.inl rfl | exact Or.inr rfl)) (pgs_cons (pg_name (i := 4) sc_can_place.nd rfl (by first | exact Or.inl rfl | exact Or.inr rfl)) pgs_nil)))))
    (pss_cons (ps_if (PW.pt (pw_or (pt_cmpR op_notIn_seq (pv 2) (pe_tup (pa_cons (pe_cst (by rfl) T.c_LOSE) (pa_cons (pe_cst (by rfl) T.c_DOUBLE) pa_nil))) (by rfl)) (pw_or (pt_not (pt_val (pe_callB call_isi (by rfl) T.b_isinstance (by decide +kernel) (pa_cons (pv 3) (pa_cons (pe_bltn (v := .ty "str") (by rfl) T.b_str (by decide +kernel) rfl) pa_nil))))) (pw_or1 (pt_cmpR op_notIn_seq (pv 3) (pe_tup (pa_cons (pe_cst (by rfl) T.c_THERE) (pa_cons (pe_cst (by rfl) T.c_BACK) pa_nil))) (by rfl))))))
      (pss_one (ps_ret pe_bl))
      pss_nil)
    (pss_cons (ps_set (i := 5) sc_can_place.nd rfl (by first | exact Or.inl rfl | exact Or.inr rfl) (pe_ifExp (pt_cmpR op_eq (pv 3) (pe_cst (by rfl) T.c_THERE) (nomark _)) (pe_fld (pv 0) rfl) (pe_fld (pv 0) rfl)))
    (pss_one (ps_ret (pe_and (pe_cl f_is_within hr (by decide) (by rfl) (pa_cons (pv 4) (pa_cons pe_int (pa_cons (pe_op op_sub (pe_callB call_len_seq (by rfl) T.b_len (by decide +kernel) (pa_cons (pv 5) pa_nil)) pe_int) pa_nil)))) (pe_one (pe_or (pe_cmpR op_eq (pv 2) (pe_cst (by rfl) T.c_LOSE) (nomark _)) (pe_one (pe_cmpR op_lt (pe_callB call_len_seq (by rfl) T.b_len (by decide +kernel) (pa_cons (pv 5) pa_nil)) (pe_fld (pv 0) rfl) (nomark _))))))))))), ?_⟩
  obtain ⟨_, _, rfl, p, P, r, s0, l, t, i, rfl, ⟨dx, vP, vG, vT, vB, hp, dP, dG, dT, dB⟩, dE, k⟩ := h
  obtain ⟨aT, xT, rfl, hT, _, lT⟩ := letters_inv dT
  obtain ⟨aB, rfl, hB⟩ := ints_inv dB
  obtain ⟨aE, rfl, hE⟩ := placed_inv dE
  have row : ∃ aR xR, SqT K H aR xR ∧ xR.length = s0.len t ∧ (if t then V.ref aT else V.ref aB) = V.ref aR := by
    cases t
    · exact ⟨aB, _, hB, by rw [List.length_map]; rfl, rfl⟩
    · exact ⟨aT, _, hT, lT, rfl⟩
  obtain ⟨aR, xR, hR, lR, eR⟩ := row
  refine ⟨_, rfl, _, _, rfl, hE, rfl, _, _, rfl, _, _, rfl, _, _, rfl, rfl, ?_⟩
  refine ⟨_, rfl, sz (Nat.le_refl 2), ?_⟩
  intro p1 n1
  generalize e_G1 : upd _ p1 _ = G1
  have k1 : Md [] _ G1 := e_G1 ▸ Md.new n1
  have h1 : G1 p1 = some _ := e_G1 ▸ upd_same
  clear e_G1
  refine ⟨_, _, rfl, .inr (SqT.of h1), rfl, rfl, _, rfl, rd_false (by cases l <;> decide +kernel) ?_⟩
  refine ⟨_, rfl, _, _, _, _, true, rfl, .ty _, .base (.str _), kit_ty (by decide +kernel), true, rfl, iteF ?_⟩
  refine ⟨_, rfl, sz (Nat.le_refl 2), ?_⟩
  intro p2 n2
  generalize e_G2 : upd _ p2 _ = G2
  have k2 : Md [] _ G2 := e_G2 ▸ Md.new n2
  have h2 : G2 p2 = some _ := e_G2 ▸ upd_same
  clear e_G2
  refine ⟨_, _, rfl, .inr (SqT.of h2), rfl, rfl, _, rfl, rd_false (by cases t <;> decide +kernel) ?_⟩
  have m2 := k1.trans k2
  have hp2 := m2.get0 hp
  -- row
  have fin : ∀ b : Bool, b = can P r s0 (if l = true then Ev.lose t i else Ev.dbl t i) → Q (.bl b) G2 := fun b e => by rw [e]; exact k _ m2
  refine ⟨_, rfl, rfl, _, rfl, ?_⟩
  have e1 : decide (V.str (chan t) = V.str "there") = t := by cases t <;> decide +kernel
  rw [e1]
  have goal2 : ∀ (A B : Prop), (t = true → A) → (t = false → B) → if t = true then A else B := fun A B h1 h2 => by cases t <;> simp [h1, h2]
  have cn : can P r s0 (if l = true then Ev.lose t i else Ev.dbl t i) = (decide (i < s0.len t) && (l || decide ((s0.len t : Int) < r))) := by cases l <;> simp [can]
  refine goal2 _ _ (fun et => ?_) (fun et => ?_)
  · refine ⟨_, rfl, _, _, _, _, _, rfl, hp2, T.cl, T.n_own_there, lk_own_there, ?_⟩
    have ea : aT = aR := by rw [et] at eR; injection eR
    rw [ea]
    refine ⟨_, rfl, _, rfl, _, _, rfl, .inr (m2.sqt hR), _, _, rfl, rfl, ?_⟩
    refine ⟨_, _, _, rfl, _, _, _, rfl, rfl, rfl, ?_⟩
    have e2 : decide (0 ≤ (i : Int) ∧ (i : Int) ≤ (xR.length : Int) - 1) = decide (i < s0.len t) := by rw [lR]; apply Bool.eq_iff_iff.mpr; simp; omega
    rw [e2]
    refine ⟨_, rfl, rd_ifd (fun hi => ?_) (fun hi => fin _ (by rw [cn, decide_eq_false hi, Bool.false_and]))⟩
    refine ⟨_, rfl, rfl, _, rfl, ?_⟩
    cases l with
    | true => exact rd_true (by decide +kernel) (fin _ (by rw [cn, decide_eq_true hi]; rfl))
    | false =>
      refine rd_false (by decide +kernel) ?_
      refine ⟨_, rfl, _, _, rfl, .inr (m2.sqt hR), _, rfl, _, _, _, _, _, rfl, hp2, T.cl, T.n_own_room, lk_own_room, _, _, rfl, rfl, fin _ ?_⟩
      rw [cn, decide_eq_true hi, lR]
      simp
  · refine ⟨_, rfl, _, _, _, _, _, rfl, hp2, T.cl, T.n_own_back, lk_own_back, ?_⟩
    have ea : aB = aR := by rw [et] at eR; injection eR
    rw [ea]
    refine ⟨_, rfl, _, rfl, _, _, rfl, .inr (m2.sqt hR), _, _, rfl, rfl, ?_⟩
    refine ⟨_, _, _, rfl, _, _, _, rfl, rfl, rfl, ?_⟩
    have e2 : decide (0 ≤ (i : Int) ∧ (i : Int) ≤ (xR.length : Int) - 1) = decide (i < s0.len t) := by rw [lR]; apply Bool.eq_iff_iff.mpr; simp; omega
    rw [e2]
    refine ⟨_, rfl, rd_ifd (fun hi => ?_) (fun hi => fin _ (by rw [cn, decide_eq_false hi, Bool.false_and]))⟩
    refine ⟨_, rfl, rfl, _, rfl, ?_⟩
    cases l with
    | true => exact rd_true (by decide +kernel) (fin _ (by rw [cn, decide_eq_true hi]; rfl))
    | false =>
      refine rd_false (by decide +kernel) ?_
      refine ⟨_, rfl, _, _, rfl, .inr (m2.sqt hR), _, rfl, _, _, _, _, _, rfl, hp2, T.cl, T.n_own_room, lk_own_room, _, _, rfl, rfl, fin _ ?_⟩
      rw [cn, decide_eq_true hi, lR]
      simp

theorem ev_ne_nil (e : Ev) : e.d ≠ .tuple [] := by cases e <;> simp [Ev.d]
theorem say_hear : Ev.hear.d ≠ Ev.say.d := fun h => by
  have : ("hear" : Str) = "say" := by injection h with h; injection h with h; injection h
  exact absurd this (by decide +kernel)
theorem say_heard : Ev.heard.d ≠ Ev.say.d := fun h => by
  have : ("heard" : Str) = "say" := by injection h with h; injection h with h; injection h
  exact absurd this (by decide +kernel)
theorem hear_heard : Ev.heard.d ≠ Ev.hear.d := fun h => by
  have : ("heard" : Str) = "hear" := by injection h with h; injection h with h; injection h
  exact absurd this (by decide +kernel)
theorem placed_ne {l t : Bool} {i : Nat} {x : Str} : Ev.d (if l then .lose t i else .dbl t i) ≠ .tuple [.str x] := fun h => by cases l <;> simp [Ev.d] at h
theorem dC {K : PySem.W.Frag} {G : Hp} {a : Addr} {x : Str} (h : ∀ H, SqT K H a [.str x]) : D K G (.ref a) (.tuple [.str x]) := .tup (h G) (.cons (.str x) .nil)


abbrev st_can_come : Stmt := topS 36
theorem sc_can_come : FnScope ["wire", "event"] ["wire", "event"] (defScope st_can_come) := ⟨rfl, rfl, rfl, by decide +kernel, rfl, by decide +kernel, by decide +kernel⟩
theorem ok_can_come {P : Program} {w : World} {K : PySem.W.Frag} {mg : Str → Option Value} {base : Heap} {C aS aH aD f : Addr} {fd : FuncData} (F : Fun K "can_come" "can_come" st_can_come f fd) (T : Txt K mg C aS aH aD)
    (f_can_place : Cl P w K mg base 3 "can_place" ["wire", "event"] (sp_can_place K C)) : FnOk P w K mg base CX0 4 f fd ["wire", "event"] (sp_can_come K C) := by
  refine F.ok sc_can_come (fun vs H Q E h => len2 h) (fun cdv A outer s H vs Q E hr h => ?_)
  refine ⟨_, (pss_cons (ps_if (PW.pt (pw_or (pt_not (pt_val (pe_callB call_isi (by rfl) T.b_isinstance (by decide +kernel) (pa_cons (pv 1) (pa_cons (pe_bltn (v := .ty "tuple") (by rfl) T.b_tuple (by decide +kernel) rfl) pa_nil))))) (pw_or (pt_cmpR (op_eqD hr.units) (pv 1) (pe_tup pa_nil) (nomark _)) (pw_or1 (pt_not (pt_val (pe_callB call_isi (by rfl) T.b_isinstance (by decide +kernel) (pa_cons (pe_ix ix_tup (pv 1) pe_int (fun _ _ => rfl)) (pa_cons (pe_bltn (v := .ty "str") (by rfl) T.b_str (by decide +kernel) rfl) pa_nil)))))))))
      (pss_one (ps_ret pe_bl))
      pss_nil)
    (pss_cons (ps_if (pt_cmpR op_eq (pe_callB call_len_seq (by rfl) T.b_len (by decide +kernel) (pa_cons (pv 1) pa_nil)) (pe_cst (by rfl) T.c_PLACED_PARTS) (nomark _))
      (pss_one (ps_ret (pe_cl f_can_place hr (by decide) (by rfl) (pa_cons (pv 0) (pa_cons (pv 1) pa_nil)))))
      pss_nil)
    (pss_cons (ps_if (pt_cmpR (op_eqD hr.units) (pv 1) (pe_cst (by rfl) T.c_SAY) (nomark _))
      (pss_one (ps_ret (pe_and (pe_cmpR op_lt (pe_fld (pv 0) rfl) (pe_callB call_len_seq (by rfl) T.b_len (by decide +kernel) (pa_cons (pe_fld (pv 0) rfl) pa_nil)) (nomark _)) (pe_one (pe_cmpR op_lt (pe_callB call_len_seq (by rfl) T.b_len (by decide +kernel) (pa_cons (pe_fld (pv 0) rfl) pa_nil)) (pe_fld (pv 0) rfl) (nomark _))))))
      pss_nil)
    (pss_cons (ps_if (pt_cmpR (op_eqD hr.units) (pv 1) (pe_cst (by rfl) T.c_HEAR) (nomark _))
      (pss_one (ps_ret (pe_cmpR (op_neD hr.units) (pe_fld (pv 0) rfl) (pe_tup pa_nil) (nomark _))))
      pss_nil)
    (pss_one (ps_ret (pe_and (pe_cmpR (op_eqD hr.units) (pv 1) (pe_cst (by rfl) T.c_HEARD) (nomark _)) (pe_one (pe_cmpR (op_neD hr.units) (pe_fld (pv 0) rfl) (pe_tup pa_nil) (nomark _)))))))))), ?_⟩
  obtain ⟨_, _, rfl, p, P, r, s0, e, rfl, wa, dE, k⟩ := h
  have wa' := wa
  obtain ⟨dx, vP, vG, vT, vB, hp, dP, dG, dT, dB⟩ := wa'
  have plc : ∀ (l t : Bool) (i : Nat), e = (if l then .lose t i else .dbl t i) → (∃ l' : Bool, l' = l) := fun l _ _ _ => ⟨l, rfl⟩
  cases e with
  | say =>
    obtain ⟨aE, rfl, hE⟩ := one_inv (x := "say") dE
    -- not a tuple, empty, no text first: dE the data, hE its SqT
    refine ⟨_, rfl, _, _, _, _, true, rfl, .ty _, tyT hE, kit_ty (by decide +kernel), true, rfl, iteF ?_⟩
    refine ⟨_, rfl, sz (Nat.zero_le 1), ?_⟩
    intro p1 n1
    generalize e_G1 : upd _ p1 _ = G1
    have k1 : Md [] _ G1 := e_G1 ▸ Md.new n1
    have h1 : G1 p1 = some _ := e_G1 ▸ upd_same
    clear e_G1
    refine rd_eq ((dE).md k1) (.tup (SqT.of h1) .nil) (ok_ev _) (ok_ints []) fun b hb => ⟨_, rfl, rd_if hb (fun z => absurd z (ev_ne_nil _)) (fun _ => ?_)⟩
    refine ⟨_, rfl, _, _, _, _, rfl, rfl, k1.sqt hE, at0, _, _, _, _, true, rfl, .ty _, .base (.str _), kit_ty (by decide +kernel), true, rfl, iteF ?_⟩
    refine ⟨_, rfl, _, _, rfl, .inr (k1.sqt hE), rfl, _, rfl, rd_false (by decide) ?_⟩
    refine ⟨_, rfl, rd_c ?_⟩
    refine rd_eq (dE.md k1) (dC T.s_SAY) (ok_ev _) (ok_ev .say) fun b hb => ⟨_, rfl, rd_if hb (fun _ => ?_) (fun z => absurd rfl z)⟩
    have hp1 := k1.get0 hp
    obtain ⟨aP, rfl, hP⟩ := ints_inv dP
    obtain ⟨aT, xT, rfl, hT, _, lT⟩ := letters_inv dT
    refine ⟨_, rfl, _, _, _, _, _, rfl, hp1, T.cl, T.n_own_known, lk_own_known, _, rfl, _, _, _, _, _, rfl, hp1, T.cl, T.n_own_packets, lk_own_packets, _, _, rfl, .inr (k1.sqt hP), _, _, rfl, rfl, _, rfl, ?_⟩
    rw [List.length_map]
    refine rd_ifd (fun h1 => ?_) (fun h1 => ?_)
    · refine ⟨_, rfl, _, _, _, _, _, rfl, hp1, T.cl, T.n_own_there, lk_own_there, _, _, rfl, .inr (k1.sqt hT), _, rfl, _, _, _, _, _, rfl, hp1, T.cl, T.n_own_room, lk_own_room, _, _, rfl, rfl, ?_⟩
      rw [lT]
      have q := k _ k1
      rw [show can P r s0 .say = decide ((s0.there.length : Int) < r) by simp only [can]; rw [decide_eq_true (by omega), Bool.true_and]] at q
      exact q
    · have q := k _ k1
      rw [show can P r s0 .say = false by simp only [can]; rw [decide_eq_false (by omega), Bool.false_and]] at q
      exact q
  | hear =>
    obtain ⟨aE, rfl, hE⟩ := one_inv (x := "hear") dE
    -- not a tuple, empty, no text first: dE the data, hE its SqT
    refine ⟨_, rfl, _, _, _, _, true, rfl, .ty _, tyT hE, kit_ty (by decide +kernel), true, rfl, iteF ?_⟩
    refine ⟨_, rfl, sz (Nat.zero_le 1), ?_⟩
    intro p1 n1
    generalize e_G1 : upd _ p1 _ = G1
    have k1 : Md [] _ G1 := e_G1 ▸ Md.new n1
    have h1 : G1 p1 = some _ := e_G1 ▸ upd_same
    clear e_G1
    refine rd_eq ((dE).md k1) (.tup (SqT.of h1) .nil) (ok_ev _) (ok_ints []) fun b hb => ⟨_, rfl, rd_if hb (fun z => absurd z (ev_ne_nil _)) (fun _ => ?_)⟩
    refine ⟨_, rfl, _, _, _, _, rfl, rfl, k1.sqt hE, at0, _, _, _, _, true, rfl, .ty _, .base (.str _), kit_ty (by decide +kernel), true, rfl, iteF ?_⟩
    refine ⟨_, rfl, _, _, rfl, .inr (k1.sqt hE), rfl, _, rfl, rd_false (by decide) ?_⟩
    refine ⟨_, rfl, rd_c ?_⟩
    refine rd_eq (dE.md k1) (dC T.s_SAY) (ok_ev _) (ok_ev .say) fun b hb => ⟨_, rfl, rd_if hb (fun z => absurd z say_hear) (fun _ => ?_)⟩
    refine ⟨_, rfl, rd_c ?_⟩
    refine rd_eq (dE.md k1) (dC T.s_HEAR) (ok_ev _) (ok_ev .hear) fun b hb => ⟨_, rfl, rd_if hb (fun _ => ?_) (fun z => absurd rfl z)⟩
    have hp1 := k1.get0 hp
    refine ⟨_, rfl, _, _, _, _, _, rfl, hp1, T.cl, T.n_own_there, lk_own_there, sz (Nat.zero_le 1), ?_⟩
    intro p2 n2
    generalize e_G2 : upd _ p2 _ = G2
    have k2 : Md [] _ G2 := e_G2 ▸ Md.new n2
    have h2 : G2 p2 = some _ := e_G2 ▸ upd_same
    clear e_G2
    refine rd_ne (dT.md (k1.trans k2)) (.tup (SqT.of h2) .nil) (ok_letters _) (ok_letters []) fun b hb => ?_
    have q := k _ (k1.trans k2)
    have eb : b = can P r s0 .hear := by
      apply Bool.eq_iff_iff.mpr
      rw [hb]
      simp only [can, decide_eq_true_eq]
      exact ⟨fun z y => z (by rw [y]; rfl), fun z y => z (lettersD_inj (m := []) y)⟩
    rw [eb]
    exact q
  | heard =>
    obtain ⟨aE, rfl, hE⟩ := one_inv (x := "heard") dE
    -- not a tuple, empty, no text first: dE the data, hE its SqT
    refine ⟨_, rfl, _, _, _, _, true, rfl, .ty _, tyT hE, kit_ty (by decide +kernel), true, rfl, iteF ?_⟩
    refine ⟨_, rfl, sz (Nat.zero_le 1), ?_⟩
    intro p1 n1
    generalize e_G1 : upd _ p1 _ = G1
    have k1 : Md [] _ G1 := e_G1 ▸ Md.new n1
    have h1 : G1 p1 = some _ := e_G1 ▸ upd_same
    clear e_G1
    refine rd_eq ((dE).md k1) (.tup (SqT.of h1) .nil) (ok_ev _) (ok_ints []) fun b hb => ⟨_, rfl, rd_if hb (fun z => absurd z (ev_ne_nil _)) (fun _ => ?_)⟩
    refine ⟨_, rfl, _, _, _, _, rfl, rfl, k1.sqt hE, at0, _, _, _, _, true, rfl, .ty _, .base (.str _), kit_ty (by decide +kernel), true, rfl, iteF ?_⟩
    refine ⟨_, rfl, _, _, rfl, .inr (k1.sqt hE), rfl, _, rfl, rd_false (by decide) ?_⟩
    refine ⟨_, rfl, rd_c ?_⟩
    refine rd_eq (dE.md k1) (dC T.s_SAY) (ok_ev _) (ok_ev .say) fun b hb => ⟨_, rfl, rd_if hb (fun z => absurd z say_heard) (fun _ => ?_)⟩
    refine ⟨_, rfl, rd_c ?_⟩
    refine rd_eq (dE.md k1) (dC T.s_HEAR) (ok_ev _) (ok_ev .hear) fun b hb => ⟨_, rfl, rd_if hb (fun z => absurd z hear_heard) (fun _ => ?_)⟩
    refine ⟨_, rfl, rd_c ?_⟩
    refine rd_eq (dE.md k1) (dC T.s_HEARD) (ok_ev _) (ok_ev .heard) fun b hb => ⟨_, rfl, rd_if hb (fun _ => ?_) (fun z => absurd rfl z)⟩
    have hp1 := k1.get0 hp
    refine ⟨_, rfl, _, _, _, _, _, rfl, hp1, T.cl, T.n_own_back, lk_own_back, sz (Nat.zero_le 1), ?_⟩
    intro p2 n2
    generalize e_G2 : upd _ p2 _ = G2
    have k2 : Md [] _ G2 := e_G2 ▸ Md.new n2
    have h2 : G2 p2 = some _ := e_G2 ▸ upd_same
    clear e_G2
    refine rd_ne (dB.md (k1.trans k2)) (.tup (SqT.of h2) .nil) (ok_ints _) (ok_ints []) fun b hb => ?_
    have q := k _ (k1.trans k2)
    have eb : b = can P r s0 .heard := by
      apply Bool.eq_iff_iff.mpr
      rw [hb]
      simp only [can, decide_eq_true_eq]
      exact ⟨fun z y => z (by rw [y]; rfl), fun z y => z (intsD_inj (m := []) y)⟩
    rw [eb]
    exact q
  | lose t i =>
    obtain ⟨aE, rfl, hE⟩ := placed_inv (l := true) dE
    -- not a tuple, empty, no text first: dE the data, hE its SqT
    refine ⟨_, rfl, _, _, _, _, true, rfl, .ty _, tyT hE, kit_ty (by decide +kernel), true, rfl, iteF ?_⟩
    refine ⟨_, rfl, sz (Nat.zero_le 1), ?_⟩
    intro p1 n1
    generalize e_G1 : upd _ p1 _ = G1
    have k1 : Md [] _ G1 := e_G1 ▸ Md.new n1
    have h1 : G1 p1 = some _ := e_G1 ▸ upd_same
    clear e_G1
    refine rd_eq ((dE).md k1) (.tup (SqT.of h1) .nil) (ok_ev _) (ok_ints []) fun b hb => ⟨_, rfl, rd_if hb (fun z => absurd z (ev_ne_nil _)) (fun _ => ?_)⟩
    refine ⟨_, rfl, _, _, _, _, rfl, rfl, k1.sqt hE, at0, _, _, _, _, true, rfl, .ty _, .base (.str _), kit_ty (by decide +kernel), true, rfl, iteF ?_⟩
    refine ⟨_, rfl, _, _, rfl, .inr (k1.sqt hE), rfl, _, rfl, rd_true (decide_eq_true rfl) ?_⟩
    exact ⟨_, rfl, _, rfl, _, _, rfl, p, P, r, s0, true, t, i, rfl, wa.md0 k1, dE.md k1, fun G2 k2 => k _ (k1.trans k2)⟩
  | dbl t i =>
    obtain ⟨aE, rfl, hE⟩ := placed_inv (l := false) dE
    -- not a tuple, empty, no text first: dE the data, hE its SqT
    refine ⟨_, rfl, _, _, _, _, true, rfl, .ty _, tyT hE, kit_ty (by decide +kernel), true, rfl, iteF ?_⟩
    refine ⟨_, rfl, sz (Nat.zero_le 1), ?_⟩
    intro p1 n1
    generalize e_G1 : upd _ p1 _ = G1
    have k1 : Md [] _ G1 := e_G1 ▸ Md.new n1
    have h1 : G1 p1 = some _ := e_G1 ▸ upd_same
    clear e_G1
    refine rd_eq ((dE).md k1) (.tup (SqT.of h1) .nil) (ok_ev _) (ok_ints []) fun b hb => ⟨_, rfl, rd_if hb (fun z => absurd z (ev_ne_nil _)) (fun _ => ?_)⟩
    refine ⟨_, rfl, _, _, _, _, rfl, rfl, k1.sqt hE, at0, _, _, _, _, true, rfl, .ty _, .base (.str _), kit_ty (by decide +kernel), true, rfl, iteF ?_⟩
    refine ⟨_, rfl, _, _, rfl, .inr (k1.sqt hE), rfl, _, rfl, rd_true (decide_eq_true rfl) ?_⟩
    exact ⟨_, rfl, _, rfl, _, _, rfl, p, P, r, s0, false, t, i, rfl, wa.md0 k1, dE.md k1, fun G2 k2 => k _ (k1.trans k2)⟩
end Dh

namespace Dh
open PySem PySem.Spec PyProof.Rows L2

theorem lost_map {α β : Type} (f : α → β) (l : List α) (i : Nat) : lost (l.map f) i = (lost l i).map f := by unfold lost; rw [List.map_append, List.map_take, List.map_drop]
theorem dbld_map {α β : Type} (f : α → β) (l : List α) (i : Nat) : dbld (l.map f) i = (dbld l i).map f := by unfold dbld; rw [List.map_append, List.map_take, List.map_drop]
theorem can_known {P : List Int} {r : Int} {s : Wr} (h : can P r s .say = true) : s.known < P.length ∧ (s.there.length : Int) < r := by
  simp only [can, Bool.and_eq_true, decide_eq_true_eq] at h
  exact h
theorem can_lt {P : List Int} {r : Int} {s : Wr} {l t : Bool} {i : Nat} (h : can P r s (if l then .lose t i else .dbl t i) = true) : i < s.len t := by
  cases l
  · have h : can P r s (.dbl t i) = true := h
    simp only [can, Bool.and_eq_true, decide_eq_true_eq] at h
    exact h.1
  · have h : can P r s (.lose t i) = true := h
    simp only [can, decide_eq_true_eq] at h
    exact h
theorem Sz.len {P : List Int} {r : Int} {s : Wr} (Z : Sz P r s) (t : Bool) : s.len t ≤ 20 := by
  have h1 := Z.there
  have h2 := Z.back
  have h3 := Z.hi
  cases t
  · show s.back.length ≤ 20; omega
  · show s.there.length ≤ 20; omega


abbrev st_Wire_done : Stmt := inClass (topS 34) 10
theorem sc_Wire_done : FnScope ["self", "event"] ["self", "event"] (defScope st_Wire_done) := ⟨rfl, rfl, rfl, by decide +kernel, rfl, by decide +kernel, by decide +kernel⟩
theorem ok_Wire_done {P : Program} {w : World} {K : PySem.W.Frag} {mg : Str → Option Value} {base : Heap} {C aS aH aD f : Addr} {fd : FuncData} (F : Fun K "done" "Wire.done" st_Wire_done f fd) (T : Txt K mg C aS aH aD)
    (m_do_hear : Mt P w K mg base 1 C "do_hear" ["self"] (sp_Wire_do_hear K C))
    (m_do_heard : Mt P w K mg base 1 C "do_heard" ["self"] (sp_Wire_do_heard K C))
    (f_placed : Cl P w K mg base 1 "placed" ["row", "word", "place"] (sp_placed K C)) : FnOk P w K mg base CX0 2 f fd ["self", "event"] (sp_Wire_done K C) := by
  refine F.ok sc_Wire_done (fun vs H Q E h => len2 h) (fun cdv A outer s H vs Q E hr h => ?_)
  refine ⟨_, (pss_one (ps_if (pt_cmpR (op_eqD hr.units) (pv 1) (pe_cst (by rfl) T.c_SAY) (nomark _))
      (pss_one (ps_fld (pv 0) (pe_tup (StX.pa_star (pe_fld (pv 0) rfl) (pa_cons (pe_tup (pa_cons (pe_fld (pv 0) rfl) (pa_cons (pe_ix ix_tup (pe_fld (pv 0) rfl) (pe_fld (pv 0) rfl) (fun _ _ => rfl)) pa_nil))) pa_nil))) rfl))
      (pss_one (ps_if (pt_cmpR (op_eqD hr.units) (pv 1) (pe_cst (by rfl) T.c_HEAR) (nomark _))
      (pss_one (ps_expr (pe_mtd0 m_do_hear hr (by decide) (pv 0))))
      (pss_one (ps_if (pt_cmpR (op_eqD hr.units) (pv 1) (pe_cst (by rfl) T.c_HEARD) (nomark _))
      (pss_one (ps_expr (pe_mtd0 m_do_heard hr (by decide) (pv 0))))
      (pss_one (ps_if (pt_cmpR op_eq (pe_ix ix_tup (pv 1) pe_int (fun _ _ => rfl)) (pe_cst (by rfl) T.c_THERE) (nomark _))
      (pss_one (ps_fld (pv 0) (pe_cl f_placed hr (by decide) (by rfl) (pa_cons (pe_fld (pv 0) rfl) (pa_cons (pe_ix ix_tup (pv 1) pe_int (fun _ _ => rfl)) (pa_cons (pe_ix ix_tup (pv 1) pe_int (fun _ _ => rfl)) pa_nil)))) rfl))
      (pss_one (ps_fld (pv 0) (pe_cl f_placed hr (by decide) (by rfl) (pa_cons (pe_fld (pv 0) rfl) (pa_cons (pe_ix ix_tup (pv 1) pe_int (fun _ _ => rfl)) (pa_cons (pe_ix ix_tup (pv 1) pe_int (fun _ _ => rfl)) pa_nil)))) rfl)))))))))), ?_⟩
  obtain ⟨_, _, rfl, p, P, r, s0, e, rfl, wa, A0, Z, dE, hc, k⟩ := h
  have wa' := wa
  obtain ⟨dx, vP, vG, vT, vB, hp, dP, dG, dT, dB⟩ := wa'
  cases e with
  | say =>
    obtain ⟨aE, rfl, hE⟩ := one_inv (x := "say") dE
    refine ⟨_, rfl, rd_c ?_⟩
    refine rd_eq dE (dC T.s_SAY) (ok_ev _) (ok_ev .say) fun b hb => ⟨_, rfl, rd_if hb (fun _ => ?_) (fun z => absurd rfl z)⟩
    obtain ⟨aP, rfl, hP⟩ := ints_inv dP
    obtain ⟨aT, xT, rfl, hT, hTa, lT⟩ := letters_inv dT
    obtain ⟨hk, hl⟩ := can_known hc
    have zt := Z.len true
    have zt' : s0.there.length ≤ 20 := zt
    have e3 : (P.map V.int)[s0.known]? = some (V.int (P.getD s0.known 0)) := by
      rw [List.getElem?_map, List.getElem?_eq_getElem hk, List.getD_eq_getElem?_getD, List.getElem?_eq_getElem hk]
      rfl
    refine ⟨_, rfl, _, _, _, _, _, rfl, hp, T.cl, T.n_own_there, lk_own_there, _, _, rfl, .inl hT, _, rfl, _, _, _, _, _, rfl, hp, T.cl, T.n_own_bit, lk_own_bit, _, rfl, _, _, _, _, _, rfl, hp, T.cl, T.n_own_packets, lk_own_packets, _, rfl, _, _, _, _, _, rfl, hp, T.cl, T.n_own_known, lk_own_known, _, _, _, _, rfl, rfl, hP, atI_nat e3, sz (Nat.le_refl 2), ?_⟩
    intro p1 n1
    generalize e_G1 : upd _ p1 _ = G1
    have k1 : Md [] _ G1 := e_G1 ▸ Md.new n1
    have h1 : G1 p1 = some _ := e_G1 ▸ upd_same
    clear e_G1
    refine ⟨sz (m := 1000) (by simp; omega), ?_⟩
    intro p2 n2
    generalize e_G2 : upd _ p2 _ = G2
    have k2 : Md [] _ G2 := e_G2 ▸ Md.new n2
    have h2 : G2 p2 = some _ := e_G2 ▸ upd_same
    clear e_G2
    have h2p := (k1.trans k2).get0 hp
    refine ⟨_, rfl, _, _, _, _, rfl, h2p, T.cl, T.n_own_there, wl, ?_⟩
    rw [pt_own_there]
    generalize e_G3 : upd _ p _ = G3
    have k3 : Md [p] _ G3 := e_G3 ▸ Md.mut h2p trivial
    have h3 : G3 p = some _ := e_G3 ▸ upd_same
    clear e_G3
    have m3 : Md [p] H G3 := (k1.trans k2).up0.trans k3
    refine k _ m3 ⟨dx, _, _, _, _, h3, (D.md m3 dP), dG.md m3, ?_, dB.md m3⟩
    have q : DA K G2 (xT ++ [V.ref p1]) ((s0.there ++ [(s0.bit, P.getD s0.known 0)]).map letD) := by
      rw [List.map_append]
      exact (hTa.md (k1.trans k2)).append (.cons ((D.tup (SqT.of h1) (DA.ints [s0.bit, P.getD s0.known 0])).md k2) .nil)
    exact D.md k3 (.tup (SqT.of h2) q)
  | hear =>
    obtain ⟨aE, rfl, hE⟩ := one_inv (x := "hear") dE
    refine ⟨_, rfl, rd_c ?_⟩
    refine rd_eq dE (dC T.s_SAY) (ok_ev _) (ok_ev .say) fun b hb => ⟨_, rfl, rd_if hb (fun z => absurd z say_hear) (fun _ => ?_)⟩
    refine ⟨_, rfl, rd_c ?_⟩
    refine rd_eq dE (dC T.s_HEAR) (ok_ev _) (ok_ev .hear) fun b hb => ⟨_, rfl, rd_if hb (fun _ => ?_) (fun z => absurd rfl z)⟩
    exact ⟨_, rfl, p, dx, _, rfl, hp, lk_do_hear, _, rfl, p, P, r, s0, rfl, wa, Z, of_decide_eq_true hc, fun G1 m1 w1 => k _ m1 w1⟩
  | heard =>
    obtain ⟨aE, rfl, hE⟩ := one_inv (x := "heard") dE
    refine ⟨_, rfl, rd_c ?_⟩
    refine rd_eq dE (dC T.s_SAY) (ok_ev _) (ok_ev .say) fun b hb => ⟨_, rfl, rd_if hb (fun z => absurd z say_heard) (fun _ => ?_)⟩
    refine ⟨_, rfl, rd_c ?_⟩
    refine rd_eq dE (dC T.s_HEAR) (ok_ev _) (ok_ev .hear) fun b hb => ⟨_, rfl, rd_if hb (fun z => absurd z hear_heard) (fun _ => ?_)⟩
    refine ⟨_, rfl, rd_c ?_⟩
    refine rd_eq dE (dC T.s_HEARD) (ok_ev _) (ok_ev .heard) fun b hb => ⟨_, rfl, rd_if hb (fun _ => ?_) (fun z => absurd rfl z)⟩
    exact ⟨_, rfl, p, dx, _, rfl, hp, lk_do_heard, _, rfl, p, P, r, s0, rfl, wa, Z, of_decide_eq_true hc, fun G1 m1 w1 => k _ m1 w1⟩
  | lose t i =>
    -- a loss or a doubling: true l
    obtain ⟨aE, rfl, hE⟩ := placed_inv (l := true) dE
    have hi := can_lt (l := true) hc
    have hz := Z.len t
    refine ⟨_, rfl, rd_c ?_⟩
    refine rd_eq dE (dC T.s_SAY) (ok_ev _) (ok_ev .say) fun b hb => ⟨_, rfl, rd_if hb (fun z => absurd z (placed_ne (l := true))) (fun _ => ?_)⟩
    refine ⟨_, rfl, rd_c ?_⟩
    refine rd_eq dE (dC T.s_HEAR) (ok_ev _) (ok_ev .hear) fun b hb => ⟨_, rfl, rd_if hb (fun z => absurd z (placed_ne (l := true))) (fun _ => ?_)⟩
    refine ⟨_, rfl, rd_c ?_⟩
    refine rd_eq dE (dC T.s_HEARD) (ok_ev _) (ok_ev .heard) fun b hb => ⟨_, rfl, rd_if hb (fun z => absurd z (placed_ne (l := true))) (fun _ => ?_)⟩
    refine ⟨_, rfl, _, _, _, _, rfl, rfl, hE, rfl, rfl, _, rfl, ?_⟩
    cases t with
    | true =>
      refine rd_true (by decide +kernel) ?_
      refine ⟨_, rfl, _, _, _, _, _, rfl, hp, T.cl, T.n_own_there, lk_own_there, _, rfl, _, _, _, _, rfl, rfl, hE, rfl, _, rfl, _, _, _, _, rfl, rfl, hE, rfl, ?_⟩
      refine ⟨_, _, _, rfl, _, true, i, dT, rfl, rfl, by rw [List.length_map]; exact hi, by rw [List.length_map]; exact Nat.le_trans hz (by decide), fun v1 G1 k1 d1 => ?_⟩
      have h1p := k1.get0 hp
      refine ⟨_, rfl, _, _, _, _, rfl, h1p, T.cl, T.n_own_there, wl, ?_⟩
      rw [pt_own_there]
      generalize e_G2 : upd _ p _ = G2
      have k2 : Md [p] _ G2 := e_G2 ▸ Md.mut h1p trivial
      have h2 : G2 p = some _ := e_G2 ▸ upd_same
      clear e_G2
      have m2 : Md [p] H G2 := k1.up0.trans k2
      have d1' := d1.md k2
      refine k _ m2 ⟨dx, _, _, _, _, h2, dP.md m2, dG.md m2, ?_, dB.md m2⟩
      first
        | rw [if_pos rfl, lost_map] at d1'; exact d1'
        | rw [if_neg Bool.false_ne_true, dbld_map] at d1'; exact d1'
    | false =>
      refine rd_false (by decide +kernel) ?_
      refine ⟨_, rfl, _, _, _, _, _, rfl, hp, T.cl, T.n_own_back, lk_own_back, _, rfl, _, _, _, _, rfl, rfl, hE, rfl, _, rfl, _, _, _, _, rfl, rfl, hE, rfl, ?_⟩
      refine ⟨_, _, _, rfl, _, true, i, dB, rfl, rfl, by rw [List.length_map]; exact hi, by rw [List.length_map]; exact Nat.le_trans hz (by decide), fun v1 G1 k1 d1 => ?_⟩
      have h1p := k1.get0 hp
      refine ⟨_, rfl, _, _, _, _, rfl, h1p, T.cl, T.n_own_back, wl, ?_⟩
      rw [pt_own_back]
      generalize e_G2 : upd _ p _ = G2
      have k2 : Md [p] _ G2 := e_G2 ▸ Md.mut h1p trivial
      have h2 : G2 p = some _ := e_G2 ▸ upd_same
      clear e_G2
      have m2 : Md [p] H G2 := k1.up0.trans k2
      have d1' := d1.md k2
      refine k _ m2 ⟨dx, _, _, _, _, h2, dP.md m2, dG.md m2, dT.md m2, ?_⟩
      first
        | rw [if_pos rfl, lost_map] at d1'; exact d1'
        | rw [if_neg Bool.false_ne_true, dbld_map] at d1'; exact d1'
  | dbl t i =>
    -- a loss or a doubling: false l
    obtain ⟨aE, rfl, hE⟩ := placed_inv (l := false) dE
    have hi := can_lt (l := false) hc
    have hz := Z.len t
    refine ⟨_, rfl, rd_c ?_⟩
    refine rd_eq dE (dC T.s_SAY) (ok_ev _) (ok_ev .say) fun b hb => ⟨_, rfl, rd_if hb (fun z => absurd z (placed_ne (l := false))) (fun _ => ?_)⟩
    refine ⟨_, rfl, rd_c ?_⟩
    refine rd_eq dE (dC T.s_HEAR) (ok_ev _) (ok_ev .hear) fun b hb => ⟨_, rfl, rd_if hb (fun z => absurd z (placed_ne (l := false))) (fun _ => ?_)⟩
    refine ⟨_, rfl, rd_c ?_⟩
    refine rd_eq dE (dC T.s_HEARD) (ok_ev _) (ok_ev .heard) fun b hb => ⟨_, rfl, rd_if hb (fun z => absurd z (placed_ne (l := false))) (fun _ => ?_)⟩
    refine ⟨_, rfl, _, _, _, _, rfl, rfl, hE, rfl, rfl, _, rfl, ?_⟩
    cases t with
    | true =>
      refine rd_true (by decide +kernel) ?_
      refine ⟨_, rfl, _, _, _, _, _, rfl, hp, T.cl, T.n_own_there, lk_own_there, _, rfl, _, _, _, _, rfl, rfl, hE, rfl, _, rfl, _, _, _, _, rfl, rfl, hE, rfl, ?_⟩
      refine ⟨_, _, _, rfl, _, false, i, dT, rfl, rfl, by rw [List.length_map]; exact hi, by rw [List.length_map]; exact Nat.le_trans hz (by decide), fun v1 G1 k1 d1 => ?_⟩
      have h1p := k1.get0 hp
      refine ⟨_, rfl, _, _, _, _, rfl, h1p, T.cl, T.n_own_there, wl, ?_⟩
      rw [pt_own_there]
      generalize e_G2 : upd _ p _ = G2
      have k2 : Md [p] _ G2 := e_G2 ▸ Md.mut h1p trivial
      have h2 : G2 p = some _ := e_G2 ▸ upd_same
      clear e_G2
      have m2 : Md [p] H G2 := k1.up0.trans k2
      have d1' := d1.md k2
      refine k _ m2 ⟨dx, _, _, _, _, h2, dP.md m2, dG.md m2, ?_, dB.md m2⟩
      first
        | rw [if_pos rfl, lost_map] at d1'; exact d1'
        | rw [if_neg Bool.false_ne_true, dbld_map] at d1'; exact d1'
    | false =>
      refine rd_false (by decide +kernel) ?_
      refine ⟨_, rfl, _, _, _, _, _, rfl, hp, T.cl, T.n_own_back, lk_own_back, _, rfl, _, _, _, _, rfl, rfl, hE, rfl, _, rfl, _, _, _, _, rfl, rfl, hE, rfl, ?_⟩
      refine ⟨_, _, _, rfl, _, false, i, dB, rfl, rfl, by rw [List.length_map]; exact hi, by rw [List.length_map]; exact Nat.le_trans hz (by decide), fun v1 G1 k1 d1 => ?_⟩
      have h1p := k1.get0 hp
      refine ⟨_, rfl, _, _, _, _, rfl, h1p, T.cl, T.n_own_back, wl, ?_⟩
      rw [pt_own_back]
      generalize e_G2 : upd _ p _ = G2
      have k2 : Md [p] _ G2 := e_G2 ▸ Md.mut h1p trivial
      have h2 : G2 p = some _ := e_G2 ▸ upd_same
      clear e_G2
      have m2 : Md [p] H G2 := k1.up0.trans k2
      have d1' := d1.md k2
      refine k _ m2 ⟨dx, _, _, _, _, h2, dP.md m2, dG.md m2, dT.md m2, ?_⟩
      first
        | rw [if_pos rfl, lost_map] at d1'; exact d1'
        | rw [if_neg Bool.false_ne_true, dbld_map] at d1'; exact d1'

abbrev st_Wire_go_on : Stmt := inClass (topS 34) 9
theorem sc_Wire_go_on : FnScope ["self", "event"] ["self", "event"] (defScope st_Wire_go_on) := ⟨rfl, rfl, rfl, by decide +kernel, rfl, by decide +kernel, by decide +kernel⟩
theorem ok_Wire_go_on {P : Program} {w : World} {K : PySem.W.Frag} {mg : Str → Option Value} {base : Heap} {C aS aH aD f : Addr} {fd : FuncData} (F : Fun K "go_on" "Wire.go_on" st_Wire_go_on f fd) (T : Txt K mg C aS aH aD)
    (m_done : Mt P w K mg base 2 C "done" ["self", "event"] (sp_Wire_done K C))
    (f_can_come : Cl P w K mg base 4 "can_come" ["wire", "event"] (sp_can_come K C)) : FnOk P w K mg base CX0 5 f fd ["self", "event"] (sp_Wire_go_on K C) := by
  refine F.ok sc_Wire_go_on (fun vs H Q E h => len2 h) (fun cdv A outer s H vs Q E hr h => ?_)
  refine ⟨_, (pss_cons (ps_if (pt_not (pt_val (pe_cl f_can_come hr (by decide) (by rfl) (pa_cons (pv 0) (pa_cons (pv 1) pa_nil)))))
      (pss_one ps_never)
      pss_nil)
    (pss_one (ps_expr (pe_mtd m_done hr (by decide) (pv 0) (pa_cons (pv 1) pa_nil))))), ?_⟩
  obtain ⟨_, _, rfl, p, P, r, s0, e, rfl, wa, A0, Z, dE, hc, k⟩ := h
  refine ⟨_, rfl, _, rfl, _, _, rfl, p, P, r, s0, e, rfl, wa, dE, fun G1 k1 => ⟨_, rfl, rd_false (by rw [hc]; rfl) ?_⟩⟩
  have w1 := wa.md0 k1
  have w1' := w1
  obtain ⟨dx, vP, vG, vT, vB, hp, _⟩ := w1'
  exact ⟨_, rfl, p, dx, _, rfl, hp, lk_done, _, rfl, _, _, rfl, p, P, r, s0, e, rfl, w1, A0, Z, dE.md k1, hc, fun G2 k2 w2 => k _ (k1.up0.trans k2) w2⟩

abbrev st_calm_round : Stmt := topS 41
theorem sc_calm_round : FnScope ["wire", "other", "found"] ["wire"] (defScope st_calm_round) := ⟨rfl, rfl, rfl, by decide +kernel, rfl, by decide +kernel, by decide +kernel⟩
theorem ok_calm_round {P : Program} {w : World} {K : PySem.W.Frag} {mg : Str → Option Value} {base : Heap} {C aS aH aD f : Addr} {fd : FuncData} (F : Fun K "calm_round" "calm_round" st_calm_round f fd) (T : Txt K mg C aS aH aD)
    (m_copy : Mt P w K mg base 6 C "copy" ["self"] (sp_Wire_copy K C))
    (m_do_hear : Mt P w K mg base 1 C "do_hear" ["self"] (sp_Wire_do_hear K C))
    (m_do_heard : Mt P w K mg base 1 C "do_heard" ["self"] (sp_Wire_do_heard K C)) : FnOk P w K mg base CX0 7 f fd ["wire"] (sp_calm_round K C) := by
  refine F.ok sc_calm_round (fun vs H Q E h => len1 h) (fun cdv A outer s H vs Q E hr h => ?_)
  refine ⟨_, (pss_cons (ps_par (i := 1) (j := 2) rfl sc_calm_round.nd rfl rfl (by decide) rfl rfl (pa_cons (pe_mtd0 m_copy hr (by decide) (pv 0)) (pa_cons (pe_lst pa_nil) pa_nil)) (by rfl))
    (pss_cons (ps_while PassesOwn.never (pt_cmpR (op_neD hr.units) (pe_fld (pv 1) rfl) (pe_tup pa_nil) (nomark _))
      (pss_cons (ps_expr (pe_bm PySem.F.plainAttrs_list PySem.F.slot_list_append PySem.F.type_list_append mt_append (pv 2) (pa_cons (pe_cst (by rfl) T.c_HEAR) pa_nil)))
    (pss_one (ps_expr (pe_mtd0 m_do_hear hr (by decide) (pv 1))))))
    (pss_cons (ps_while PassesOwn.never (pt_cmpR (op_neD hr.units) (pe_fld (pv 1) rfl) (pe_tup pa_nil) (nomark _))
      (pss_cons (ps_expr (pe_bm PySem.F.plainAttrs_list PySem.F.slot_list_append PySem.F.type_list_append mt_append (pv 2) (pa_cons (pe_cst (by rfl) T.c_HEARD) pa_nil)))
    (pss_one (ps_expr (pe_mtd0 m_do_heard hr (by decide) (pv 1))))))
    (pss_one (ps_ret (pe_callTy call_tuple_of (by rfl) T.b_tuple (by decide +kernel) (pa_cons (pe_op op_cat (pv 2) (pe_ifExp (pt_cmpR op_lt (pe_fld (pv 1) rfl) (pe_callB call_len_seq (by rfl) T.b_len (by decide +kernel) (pa_cons (pe_fld (pv 1) rfl) pa_nil)) (nomark _)) (pe_lst (pa_cons (pe_cst (by rfl) T.c_SAY) (pa_cons (pe_cst (by rfl) T.c_HEAR) (pa_cons (pe_cst (by rfl) T.c_HEARD) pa_nil)))) (pe_lst pa_nil))) pa_nil))))))), ?_⟩
  obtain ⟨_, rfl, p, P, r, s0, rfl, wa, A0, eT, eB, k⟩ := h
  have wa' := wa
  obtain ⟨dx, vP, vG, vT, vB, hp, dP, dG, dT, dB⟩ := wa'
  refine ⟨_, rfl, p, dx, _, rfl, hp, lk_copy, _, rfl, p, P, r, s0, rfl, wa, A0, fun q G1 nq k1 w1 => ?_⟩
  refine ⟨Nat.zero_le _, ?_⟩
  intro l n2
  generalize e_G2 : upd _ l _ = G2
  have k2 : Md [] _ G2 := e_G2 ▸ Md.new n2
  have h2 : G2 l = some _ := e_G2 ▸ upd_same
  clear e_G2
  refine ⟨_, _, rfl, ?_⟩
  have w2 := w1.md0 k2
  obtain ⟨dx2, wP, wG, wT, wB, hq, eP, eG, eT2, eB2⟩ := w2
  refine ⟨fun m σ' H' => m = 0 ∧ σ' = _ ∧ Md [] G2 H', ⟨0, rfl, rfl, .refl⟩, ?_⟩
  rintro m σ' H' ⟨rfl, rfl, m2⟩
  have hqa := m2.get0 hq
  refine ⟨_, rfl, _, _, _, _, _, rfl, hqa, T.cl, T.n_own_there, lk_own_there, sz (Nat.zero_le 1), ?_⟩
  intro p3 n3
  generalize e_G3 : upd _ p3 _ = G3
  have k3 : Md [] _ G3 := e_G3 ▸ Md.new n3
  have h3 : G3 p3 = some _ := e_G3 ▸ upd_same
  clear e_G3
  have m3 := m2.trans k3
  refine rd_ne (eT2.md m3) (.tup (SqT.of h3) .nil) (ok_letters _) (ok_letters []) fun b hb => ⟨_, rfl, rd_if hb (fun z => absurd (by rw [eT]; rfl) z) (fun _ => ?_)⟩
  refine ⟨fun m σ' H' => m = 0 ∧ σ' = _ ∧ Md [] G2 H', ⟨0, rfl, rfl, m3⟩, ?_⟩
  rintro m σ' H'' ⟨rfl, rfl, m4⟩
  have hqb := m4.get0 hq
  refine ⟨_, rfl, _, _, _, _, _, rfl, hqb, T.cl, T.n_own_back, lk_own_back, sz (Nat.zero_le 1), ?_⟩
  intro p5 n5
  generalize e_G5 : upd _ p5 _ = G5
  have k5 : Md [] _ G5 := e_G5 ▸ Md.new n5
  have h5 : G5 p5 = some _ := e_G5 ▸ upd_same
  clear e_G5
  have m5 := m4.trans k5
  refine rd_ne (eB2.md m5) (.tup (SqT.of h5) .nil) (ok_ints _) (ok_ints []) fun b hb => ⟨_, rfl, rd_if hb (fun z => absurd (by rw [eB]; rfl) z) (fun _ => ?_)⟩
  have h5q := m5.get0 hq
  obtain ⟨aP, rfl, hP⟩ := ints_inv (eP.md m5)
  have M5 := (k1.trans k2).trans m5
  refine ⟨_, rfl, _, rfl, _, _, _, _, _, rfl, h5q, T.cl, T.n_own_known, lk_own_known, _, rfl, _, _, _, _, _, rfl, h5q, T.cl, T.n_own_packets, lk_own_packets, _, _, rfl, .inr hP, _, _, rfl, rfl, _, rfl, ?_⟩
  rw [List.length_map]
  refine rd_ifd (fun hl => ?_) (fun hl => ?_)
  · refine ⟨sz (Nat.le_refl 3), ?_⟩
    intro p6 n6
    generalize e_G6 : upd _ p6 _ = G6
    have k6 : Md [] _ G6 := e_G6 ▸ Md.new n6
    have h6 : G6 p6 = some _ := e_G6 ▸ upd_same
    clear e_G6
    refine ⟨_, _, _, _, rfl, rfl, (m5.trans k6).get0 h2, h6, sz (Nat.le_refl 3), ?_⟩
    intro p7 n7
    generalize e_G7 : upd _ p7 _ = G7
    have k7 : Md [] _ G7 := e_G7 ▸ Md.new n7
    have h7 : G7 p7 = some _ := e_G7 ▸ upd_same
    clear e_G7
    refine ⟨_, _, rfl, .inl ⟨SqL.of h7, ?_⟩⟩
    intro p8 n8
    generalize e_G8 : upd _ p8 _ = G8
    have k8 : Md [] _ G8 := e_G8 ▸ Md.new n8
    have h8 : G8 p8 = some _ := e_G8 ▸ upd_same
    clear e_G8
    refine k _ _ (((M5.trans k6).trans k7).trans k8) ?_
    rw [if_pos (by omega)]
    exact .tup (SqT.of h8) (.cons (dC T.s_SAY) (.cons (dC T.s_HEAR) (.cons (dC T.s_HEARD) .nil)))
  · refine ⟨sz (Nat.zero_le 3), ?_⟩
    intro p6 n6
    generalize e_G6 : upd _ p6 _ = G6
    have k6 : Md [] _ G6 := e_G6 ▸ Md.new n6
    have h6 : G6 p6 = some _ := e_G6 ▸ upd_same
    clear e_G6
    refine ⟨_, _, _, _, rfl, rfl, (m5.trans k6).get0 h2, h6, sz (Nat.zero_le 3), ?_⟩
    intro p7 n7
    generalize e_G7 : upd _ p7 _ = G7
    have k7 : Md [] _ G7 := e_G7 ▸ Md.new n7
    have h7 : G7 p7 = some _ := e_G7 ▸ upd_same
    clear e_G7
    refine ⟨_, _, rfl, .inl ⟨SqL.of h7, ?_⟩⟩
    intro p8 n8
    generalize e_G8 : upd _ p8 _ = G8
    have k8 : Md [] _ G8 := e_G8 ▸ Md.new n8
    have h8 : G8 p8 = some _ := e_G8 ▸ upd_same
    clear e_G8
    refine k _ _ (((M5.trans k6).trans k7).trans k8) ?_
    rw [if_neg (by omega)]
    exact .tup (SqT.of h8) .nil
end Dh

namespace Dh
open PySem PySem.Spec PyProof.Rows L2

theorem run_append (P : List Int) (r : Int) : ∀ (l m : List Ev) (s : Wr), run P r s (l ++ m) = run P r (run P r s l) m
  | [], _, _ => rfl
  | e :: l, m, s => run_append P r l m (stp P r s e)
theorem run_take_succ {P : List Int} {r : Int} {l : List Ev} {i : Nat} {e : Ev} {s : Wr} (h : l[i]? = some e) : run P r s (l.take (i + 1)) = stp P r (run P r s (l.take i)) e := by
  have e1 : l.take (i + 1) = l.take i ++ [e] := by rw [List.take_add_one, h]; rfl
  rw [e1, run_append]
  rfl
theorem canAll_get {P : List Int} {r : Int} : ∀ {l : List Ev} {i : Nat} {e : Ev} {s : Wr}, canAll P r s l → l[i]? = some e → can P r (run P r s (l.take i)) e = true
  | [], _, _, _, _, h => by simp at h
  | a :: l, 0, e, s, hc, h => by simp at h; subst h; exact hc.1
  | a :: l, i + 1, e, s, hc, h => canAll_get (l := l) (i := i) hc.2 (by simpa using h)
theorem evs_inv {K : PySem.W.Frag} {H : Hp} {v : V} {l : List Ev} (h : D K H v (evsD l)) : ∃ a xs, v = .ref a ∧ SqT K H a xs ∧ DA K H xs (l.map Ev.d) ∧ xs.length = l.length := by
  obtain ⟨a, xs, rfl, hs, ha⟩ := h.tup_inv
  exact ⟨a, xs, rfl, hs, ha, by rw [ha.len, List.length_map]⟩
theorem evs_get {K : PySem.W.Frag} {H : Hp} {xs : List V} {l : List Ev} {i : Nat} {x : V} (h : DA K H xs (l.map Ev.d)) (hx : xs[i]? = some x) : ∃ e, l[i]? = some e ∧ D K H x (Ev.d e) := by
  obtain ⟨d, e, hd⟩ := h.get' hx
  rw [List.getElem?_map] at e
  cases e2 : l[i]? with
  | none => rw [e2] at e; cases e
  | some y => rw [e2] at e; cases e; exact ⟨y, rfl, hd⟩

abbrev st_played_wire : Stmt := topS 39
theorem sc_played_wire : FnScope ["packets", "room", "events", "wire", "number", "event"] ["packets", "room", "events"] (defScope st_played_wire) := ⟨rfl, rfl, rfl, by decide +kernel, rfl, by decide +kernel, by decide +kernel⟩
theorem ok_played_wire {P : Program} {w : World} {K : PySem.W.Frag} {mg : Str → Option Value} {base : Heap} {C aS aH aD f : Addr} {fd : FuncData} (F : Fun K "played_wire" "played_wire" st_played_wire f fd) (T : Txt K mg C aS aH aD)
    (k_Wire : Mkr P w K mg base 4 "Wire" C ["self", "packets", "room"] (sp_Wire___init__ K C))
    (f_is_row : Cl P w K mg base 1 "is_row" ["value", "room"] (sp_is_row K C))
    (m_done : Mt P w K mg base 2 C "done" ["self", "event"] (sp_Wire_done K C))
    (f_can_come : Cl P w K mg base 4 "can_come" ["wire", "event"] (sp_can_come K C)) : FnOk P w K mg base CX0 6 f fd ["packets", "room", "events"] (sp_played_wire K C) := by
  refine F.ok sc_played_wire (fun vs H Q E h => len3 h) (fun cdv A outer s H vs Q E hr h => ?_)
  refine ⟨_, (pss_cons (ps_set (i := 3) sc_played_wire.nd rfl (by first | exact Or.inl rfl | exact Or.inr rfl) (pe_mkC k_Wire hr (by decide) (by rfl) (pa_cons (pv 0) (pa_cons (pv 1) pa_nil))))
    (pss_cons (ps_if (pt_not (pt_val (pe_cl f_is_row hr (by decide) (by rfl) (pa_cons (pv 2) (pa_cons (pe_cst (by rfl) T.c_MOST_EVENTS) pa_nil)))))
      (pss_one ps_never)
      pss_nil)
    (pss_cons (ps_for PassesOwn.never rfl (pi_enumT (by rfl) T.b_enumerate (pa_cons (pv 2) pa_nil)) (pg_tup rfl (pgs_cons (pg_name (i := 4) sc_played_wire.nd rfl (by first | exact Or.inl rfl | exact Or.inr rfl)) (pgs_cons (pg_name (i := 5) sc_played_wire.nd rfl (by first | exact Or.inl rfl | exact Or.inr rfl)) pgs_nil)))
      (pss_cons (ps_if (pt_not (pt_val (pe_cl f_can_come hr (by decide) (by rfl) (pa_cons (pv 3) (pa_cons (pv 5) pa_nil)))))
      (pss_one ps_never)
      pss_nil)
    (pss_one (ps_expr (pe_mtd m_done hr (by decide) (pv 3) (pa_cons (pv 5) pa_nil))))))
    (pss_one (ps_ret (pv 3)))))), ?_⟩
  obtain ⟨_, _, _, rfl, P, r, l, dP, rfl, A0, dE, hz, hc, hZ, k⟩ := h
  obtain ⟨aE, xE, rfl, hE, hEa, lE⟩ := evs_inv dE
  refine ⟨_, rfl, _, rfl, ?_⟩
  intro x dy nx ndy nxy
  generalize e_G : upd (upd H dy (.own x)) x (.ins C dy []) = G
  have n2 : upd H dy (.own x) x = none := by rw [upd_ne (Ne.symm nxy)]; exact nx
  have k0 : Md [] H G := e_G ▸ ((Md.new ndy).trans (Md.new n2))
  have hx : G x = some (.ins C dy []) := e_G ▸ upd_same
  clear e_G
  refine ⟨_, _, _, rfl, x, dy, P, r, rfl, hx, dP.md k0, rfl, A0, fun G1 k1 w1 => ⟨rfl, ?_⟩⟩
  have M1 : Md [x] H G1 := k0.up0.trans k1
  refine ⟨_, rfl, _, _, rfl, _, _, dE.md M1, rfl, ?_⟩
  rw [show decide (((l.map Ev.d).length : Int) ≤ 1000) = true from decide_eq_true (by rw [List.length_map]; omega)]
  refine ⟨_, rfl, iteF ?_⟩
  have hE1 := M1.sqt hE
  refine ⟨_, rfl, _, _, rfl, hE1, for_enumT (K := K) (a := aE) (xs := xE) (fun i σ H' => (∃ v4 v5, σ = [_, some (.int r), some (.ref aE), some (.ref x), v4, v5]) ∧ Md [x] G1 H' ∧ WireAt K C H' x P r (run P r Wr.init (l.take i)))
    ⟨⟨_, _, rfl⟩, .refl, w1⟩ (fun i σ H' _ q => q.2.1.sqt hE1) ?_ ?_⟩
  · rintro i y T1 σ H' hi ⟨⟨v4, v5, rfl⟩, m', w'⟩ nT
    obtain ⟨e, he, de⟩ := evs_get hEa hi
    generalize e_G2 : upd _ T1 _ = G2
    have k2 : Md [] _ G2 := e_G2 ▸ Md.new nT
    have h2 : G2 T1 = some _ := e_G2 ▸ upd_same
    clear e_G2
    have w2 := w'.md0 k2
    have de2 := de.md ((M1.trans m').trans k2.up0)
    have hcan := canAll_get hc he
    refine ⟨_, _, rfl, SqT.of h2, rfl, _, _, rfl, _, _, rfl, rfl, ?_⟩
    refine ⟨_, rfl, _, rfl, _, _, rfl, x, P, r, _, e, rfl, w2, de2, fun G3 k3 => ⟨_, rfl, rd_false (by rw [hcan]; rfl) ?_⟩⟩
    have w3 := w2.md0 k3
    have w3' := w3
    obtain ⟨dx, vP, vG, vT, vB, hp, _⟩ := w3'
    refine ⟨_, rfl, x, dx, _, rfl, hp, lk_done, _, rfl, _, _, rfl, x, P, r, _, e, rfl, w3, A0, hZ i, de2.md k3, hcan, fun G4 k4 w4 => ?_⟩
    refine ⟨⟨_, _, rfl⟩, ((m'.trans k2.up0).trans k3.up0).trans k4, ?_⟩
    rw [run_take_succ he]
    exact w4
  · rintro σ H' ⟨⟨v4, v5, rfl⟩, m', w'⟩
    refine ⟨_, rfl, k x H' nx ((M1.trans m').drop nx) ?_⟩
    rw [lE, List.take_length] at w'
    exact w'

theorem chEvs_len (r : Int) (t : Bool) (n : Nat) : (chEvs r t n).length ≤ 2 * n := by
  unfold chEvs
  induction n with
  | zero => simp
  | succ n ih =>
    -- the number of rows counts in the tests too: bound each by two
    have : ∀ (m : Nat) (f : Nat → List Ev), (∀ i, (f i).length ≤ 2) → ((List.range m).flatMap f).length ≤ 2 * m := by
      intro m f hf
      induction m with
      | zero => simp
      | succ m ihm =>
        rw [List.range_succ, List.flatMap_append, List.length_append]
        have := hf m
        simp only [List.flatMap_cons, List.flatMap_nil, List.append_nil]
        omega
    exact this (n + 1) _ fun i => by
      simp only [List.length_cons]
      split <;> simp
theorem evs_some {K : PySem.W.Frag} {G : Hp} {aS aH aD : Addr} (hS : D K G (.ref aS) (Ev.d .say)) (hH : D K G (.ref aH) (Ev.d .hear)) (hD : D K G (.ref aD) (Ev.d .heard)) (c : Ev → Bool) (f : Nat → V → Option V)
    (hf : ∀ x, f 0 x = (if c .say then some x else none) ∧ f 1 x = (if c .hear then some x else none) ∧ f 2 x = (if c .heard then some x else none)) :
    DA K G (fmI f 0 [.ref aS, .ref aH, .ref aD]) (([Ev.say, .hear, .heard].filter c).map Ev.d) := by
  have h1 := (hf (.ref aS)).1
  have h2 := (hf (.ref aH)).2.1
  have h3 := (hf (.ref aD)).2.2
  simp only [fmI, Nat.zero_add, List.append_nil, show (0 : Nat) + 1 = 1 from rfl, show (1 : Nat) + 1 = 2 from rfl]
  rw [h1, h2, h3]
  cases a1 : c .say <;> cases a2 : c .hear <;> cases a3 : c .heard <;>
    simp only [a1, a2, a3, List.filter_cons, List.filter_nil, if_true, if_false, Bool.false_eq_true, Option.toList, List.nil_append, List.append_nil, List.map_cons, List.map_nil, List.cons_append] <;>
    repeat (first | exact .nil | refine .cons (by assumption) ?_)
/-- behind i turns over a row -/
def chTo (r : Int) (t : Bool) (n i : Nat) : List Ev := (List.range i).flatMap fun i => .lose t i :: (if (n : Int) < r then [.dbl t i] else [])
theorem chTo_succ (r : Int) (t : Bool) (n i : Nat) : chTo r t n (i + 1) = chTo r t n i ++ (.lose t i :: (if (n : Int) < r then [.dbl t i] else [])) := by
  unfold chTo
  rw [List.range_succ, List.flatMap_append]
  simp
theorem chTo_len (r : Int) (t : Bool) (n i : Nat) : (chTo r t n i).length ≤ 2 * i := by
  induction i with
  | zero => exact Nat.zero_le _
  | succ i ih =>
    rw [chTo_succ, List.length_append]
    simp only [List.length_cons]
    split <;> simp <;> omega
/-- behind j channels -/
def evsTo (P : List Int) (r : Int) (s : Wr) : Nat → List Ev
  | 0 => [.say, .hear, .heard].filter (can P r s)
  | 1 => ([.say, .hear, .heard].filter (can P r s)) ++ chEvs r true s.there.length
  | _ => evsNow P r s
theorem evsTo_len {P : List Int} {r : Int} {s : Wr} (Z : Sz P r s) (j : Nat) : (evsTo P r s j).length ≤ 100 := by
  have h1 := Z.len true
  have h2 := Z.len false
  have h1' : s.there.length ≤ 20 := h1
  have h2' : s.back.length ≤ 20 := h2
  have h3 := chEvs_len r true s.there.length
  have h4 := chEvs_len r false s.back.length
  have h0 : ([Ev.say, .hear, .heard].filter (can P r s)).length ≤ 3 := List.length_filter_le _ _
  match j with
  | 0 => exact Nat.le_trans h0 (by decide)
  | 1 => simp only [evsTo, List.length_append]; omega
  | n + 2 => simp only [evsTo, evsNow, List.length_append]; omega

end Dh

namespace Dh
open PySem PySem.Spec PyProof.Rows L2

def evOf : Nat → Ev
  | 0 => .say
  | 1 => .hear
  | _ => .heard
abbrev st_events_now : Stmt := topS 38
theorem sc_events_now : FnScope ["wire", "found", "event", "channel", "row", "place"] ["wire"] (defScope st_events_now) := ⟨rfl, rfl, rfl, by decide +kernel, rfl, by decide +kernel, by decide +kernel⟩
theorem ok_events_now {P : Program} {w : World} {K : PySem.W.Frag} {mg : Str → Option Value} {base : Heap} {C aS aH aD f : Addr} {fd : FuncData} (F : Fun K "events_now" "events_now" st_events_now f fd) (T : Txt K mg C aS aH aD)
    (f_can_come : Cl P w K mg base 4 "can_come" ["wire", "event"] (sp_can_come K C)) : FnOk P w K mg base CX0 5 f fd ["wire"] (sp_events_now K C) := by
  refine F.ok sc_events_now (fun vs H Q E h => len1 h) (fun cdv A outer s H vs Q E hr h => ?_)
  refine ⟨_, (pss_cons (ps_setLc (i := 1) (own := [("event", 2)]) (by rfl) sc_events_now.nd rfl rfl (sw_true rfl rfl rfl (by decide +kernel)) (pi_tup (pe_tup (pa_cons (pe_cst (by rfl) T.c_SAY) (pa_cons (pe_cst (by rfl) T.c_HEAR) (pa_cons (pe_cst (by rfl) T.c_HEARD) pa_nil))))) (blkOk_by (N := ["wire", "found", "event", "channel", "row", "place"]) (sc := defScope st_events_now) (own := [("event", 2)]) (by decide +kernel)) (fun _ _ _ _ _ => (pg_name (i := 2) sc_events_now.nd rfl (by first | exact Or.inl rfl | exact Or.inr rfl))) (fun _ _ _ _ _ => (pts_one (pt_val (pe_cl f_can_come hr (by decide) (by rfl) (pa_cons (pv 0) (pa_cons (pv 2) pa_nil)))))) (fun _ _ _ _ _ => (pv 2)))
    (pss_cons (ps_for PassesOwn.never rfl (pi_tup (pe_tup (pa_cons (pe_tup (pa_cons (pe_cst (by rfl) T.c_THERE) (pa_cons (pe_fld (pv 0) rfl) pa_nil))) (pa_cons (pe_tup (pa_cons (pe_cst (by rfl) T.c_BACK) (pa_cons (pe_fld (pv 0) rfl) pa_nil))) pa_nil)))) (pg_tup rfl (pgs_cons (pg_name (i := 3) sc_events_now.nd rfl (by first | exact Or.inl rfl | exact Or.inr rfl)) (pgs_cons (pg_name (i := 4) sc_events_now.nd rfl (by first | exact Or.inl rfl | exact Or.inr rfl)) pgs_nil)))
      (pss_one (ps_for PassesOwn.never rfl (pi_range1 (by rfl) T.b_range (pa_cons (pe_callB call_len_seq (by rfl) T.b_len (by decide +kernel) (pa_cons (pv 4) pa_nil)) pa_nil)) (pg_name (i := 5) sc_events_now.nd rfl (by first | exact Or.inl rfl | exact Or.inr rfl))
      (pss_cons (ps_expr (pe_bm PySem.F.plainAttrs_list PySem.F.slot_list_append PySem.F.type_list_append mt_append (pv 1) (pa_cons (pe_tup (pa_cons (pe_cst (by rfl) T.c_LOSE) (pa_cons (pv 3) (pa_cons (pv 5) pa_nil)))) pa_nil)))
    (pss_one (ps_expr (pe_bm PySem.F.plainAttrs_list PySem.F.slot_list_extend PySem.F.type_list_extend mt_extend (pv 1) (pa_cons (pe_ifExp (pt_cmpR op_lt (pe_callB call_len_seq (by rfl) T.b_len (by decide +kernel) (pa_cons (pv 4) pa_nil)) (pe_fld (pv 0) rfl) (nomark _)) (pe_lst (pa_cons (pe_tup (pa_cons (pe_cst (by rfl) T.c_DOUBLE) (pa_cons (pv 3) (pa_cons (pv 5) pa_nil)))) pa_nil)) (pe_lst pa_nil)) pa_nil))))))))
    (pss_one (ps_ret (pe_callTy call_tuple_of (by rfl) T.b_tuple (by decide +kernel) (pa_cons (pv 1) pa_nil)))))), ?_⟩
  obtain ⟨_, rfl, p, P, r, s0, rfl, wa, A0, Z, k⟩ := h
  refine ⟨sz (Nat.le_refl 3), ?_⟩
  intro p1 n1
  generalize e_G1 : upd _ p1 _ = G1
  have k1 : Md [] _ G1 := e_G1 ▸ Md.new n1
  have h1 : G1 p1 = some _ := e_G1 ▸ upd_same
  clear e_G1
  refine ⟨_, rfl, ⟨_, SqT.of h1⟩, lc_pureT (SqT.of h1) (szl (Nat.le_refl 3)) (fun i x => if can P r s0 (evOf i) = true then some x else none) ?_ ?_⟩
  · intro i x H2 R hx hm kk
    have dx : D K H2 x (Ev.d (evOf i)) := by
      match i, hx with
      | 0, hx => cases hx; exact dC T.s_SAY
      | 1, hx => cases hx; exact dC T.s_HEAR
      | 2, hx => cases hx; exact dC T.s_HEARD
      | n + 3, hx => simp at hx
    refine ⟨rfl, ?_⟩
    refine ⟨_, rfl, _, rfl, _, _, rfl, p, P, r, s0, evOf i, rfl, wa.md0 (k1.trans hm), dx, fun G5 k5 => ⟨_, rfl, ?_⟩⟩
    have q := kk G5 k5
    dsimp only at q
    refine rd_if Iff.rfl (fun hc => ?_) (fun hc => ?_)
    · rw [if_pos hc] at q
      exact ⟨_, rfl, q⟩
    · rw [if_neg hc] at q
      exact q
  intro D0 G2 nD k2 hD
  have d0 := evs_some (K := K) (G := G2) (dC T.s_SAY) (dC T.s_HEAR) (dC T.s_HEARD) (can P r s0) (fun i x => if can P r s0 (evOf i) = true then some x else none) (fun x => ⟨rfl, rfl, rfl⟩)
  have M2 := k1.trans k2
  have wa' := wa
  obtain ⟨dx, vP, vG, vT, vB, hp, dP, dG, dT, dB⟩ := wa'
  obtain ⟨aT, xT, rfl, hT, hTa, lT⟩ := letters_inv dT
  obtain ⟨aB, rfl, hB⟩ := ints_inv dB
  have nDp : D0 ≠ p := fun z => by rw [z, k1.get0 hp] at nD; cases nD
  have hp2 := M2.get0 hp
  refine ⟨_, rfl, _, _, _, _, _, rfl, hp2, T.cl, T.n_own_there, lk_own_there, sz (Nat.le_refl 2), ?_⟩
  intro q1 na
  generalize e_Ga : upd _ q1 _ = Ga
  have ka : Md [] _ Ga := e_Ga ▸ Md.new na
  have ha : Ga q1 = some _ := e_Ga ▸ upd_same
  clear e_Ga
  have hpa := ka.get0 hp2
  refine ⟨_, rfl, _, _, _, _, _, rfl, hpa, T.cl, T.n_own_back, lk_own_back, sz (Nat.le_refl 2), ?_⟩
  intro q2 nb
  generalize e_Gb : upd _ q2 _ = Gb
  have kb : Md [] _ Gb := e_Gb ▸ Md.new nb
  have hb : Gb q2 = some _ := e_Gb ▸ upd_same
  clear e_Gb
  refine ⟨sz (Nat.le_refl 2), ?_⟩
  intro q3 n3
  generalize e_G3 : upd _ q3 _ = G3
  have k3 : Md [] _ G3 := e_G3 ▸ Md.new n3
  have h3 : G3 q3 = some _ := e_G3 ▸ upd_same
  clear e_G3
  have kab := (ka.trans kb).trans k3
  have M3 := M2.trans kab
  have hp3 := kab.get0 hp2
  have hq1 := (kb.trans k3).get0 ha
  have hq2 := k3.get0 hb
  have hT3 := M3.sqt hT
  have hB3 := M3.sqt hB
  have lT' : xT.length = s0.len true := lT
  have lB' : (s0.back.map V.int).length = s0.len false := by rw [List.length_map]; rfl
  refine ⟨_, rfl, ⟨_, SqT.of h3⟩, for_tup (K := K) (a := q3) (xs := [.ref q1, .ref q2]) (fun j σ H' => (∃ v2 v3 v4 v5, σ = [some (.ref p), some (.ref D0), v2, v3, v4, v5]) ∧ Md [D0] G3 H' ∧ ∃ vs, H' D0 = some (.lst vs) ∧ DA K H' vs ((evsTo P r s0 j).map Ev.d))
    ⟨⟨_, _, _, _, rfl⟩, .refl, _, kab.get0 hD, d0.md kab⟩ (fun i σ H' _ q => q.2.1.sqt (SqT.of h3)) ?_ ?_⟩
  · rintro j x σ H' hj ⟨⟨v2, v3, v4, v5, rfl⟩, m', vs', h', d'⟩
    match j, hj with
    | 0, hj =>
      cases hj
      refine ⟨_, _, rfl, m'.sqt (SqT.of hq1), rfl, _, _, rfl, _, _, rfl, rfl, ?_⟩
      -- the turn of one channel: true t, hT3 the row's SqT, lT' its length's equation, (evsTo P r s0 0) evs ahead, (evsTo_len Z 0) their bound
      have l5c := Z.len true
      have l5e := lT'
      refine ⟨_, rfl, _, _, rfl, .inr (m'.sqt hT3), _, rfl, by omega, by omega, ?_⟩
      rw [Int.toNat_natCast, lT']
      refine for_range (lo := 0) (n := s0.len true) (fun i σ H' => (∃ v5, σ = [some (.ref p), some (.ref D0), v2, some (.str (chan true)), some (.ref aT), v5]) ∧ Md [D0] G3 H' ∧ ∃ vs, H' D0 = some (.lst vs) ∧ DA K H' vs (((evsTo P r s0 0) ++ chTo r true (s0.len true) i).map Ev.d)) ?_ ?_ ?_
      · exact ⟨⟨_, rfl⟩, m', vs', h', by rw [show chTo r true (s0.len true) 0 = [] from rfl, List.append_nil]; exact d'⟩
      · rintro i σ H5 hi ⟨⟨v5, rfl⟩, m5, vs5, h5, d5⟩
        have l5 := d5.len
        rw [List.length_map, List.length_append] at l5
        have l5b := chTo_len r true (s0.len true) i
        have l5c := Z.len true
        have l5d := (evsTo_len Z 0)
        have zi : (0 : Int) + (i : Nat) = (i : Int) := by omega
        refine ⟨_, rfl, .inl ⟨rfl, _, SqL.of h5⟩, _, rfl, _, rfl, sz (Nat.le_refl 3), ?_⟩
        intro p6 n6
        generalize e_G6 : upd _ p6 _ = G6
        have k6 : Md [] _ G6 := e_G6 ▸ Md.new n6
        have h6 : G6 p6 = some _ := e_G6 ▸ upd_same
        clear e_G6
        have h5b := k6.get0 h5
        refine ⟨_, _, _, rfl, rfl, h5b, szl (m := 1000) (by omega), ?_⟩
        generalize e_G7 : upd _ D0 _ = G7
        have k7 : Md [D0] _ G7 := e_G7 ▸ Md.mut h5b trivial
        have h7 : G7 D0 = some _ := e_G7 ▸ upd_same
        clear e_G7
        have m7 : Md [D0] G3 G7 := (m5.trans k6.up0).trans k7
        have d7 : DA K G7 (vs5 ++ [V.ref p6]) (((evsTo P r s0 0) ++ chTo r true (s0.len true) i ++ [Ev.lose true i]).map Ev.d) := by
          rw [List.map_append]
          refine ((d5.md k6).md k7).append (.cons ?_ .nil)
          rw [zi] at h6
          exact D.md k7 (.tup (SqT.of h6) (.cons (.str _) (.cons (.str _) (.cons (.int _) .nil))))
        have hp7 := m7.get1 hp3 (Ne.symm nDp)
        refine ⟨_, rfl, .inl ⟨rfl, _, SqL.of h7⟩, _, rfl, _, _, rfl, .inr (m7.sqt hT3), _, rfl, _, _, _, _, _, rfl, hp7, T.cl, T.n_own_room, lk_own_room, _, _, rfl, rfl, _, rfl, ?_⟩
        rw [lT']
        refine rd_ifd (fun hl => ?_) (fun hl => ?_)
        · refine ⟨_, rfl, _, rfl, sz (Nat.le_refl 3), ?_⟩
          intro p8 n8
          generalize e_G8 : upd _ p8 _ = G8
          have k8 : Md [] _ G8 := e_G8 ▸ Md.new n8
          have h8 : G8 p8 = some _ := e_G8 ▸ upd_same
          clear e_G8
          refine ⟨sz (Nat.le_refl 1), ?_⟩
          intro p9 n9
          generalize e_G9 : upd _ p9 _ = G9
          have k9 : Md [] _ G9 := e_G9 ▸ Md.new n9
          have h9 : G9 p9 = some _ := e_G9 ▸ upd_same
          clear e_G9
          have h7b := (k8.trans k9).get0 h7
          refine ⟨_, _, _, _, rfl, rfl, h7b, h9, sz (m := 1000) (by simp; omega), ?_⟩
          generalize e_G10 : upd _ D0 _ = G10
          have k10 : Md [D0] _ G10 := e_G10 ▸ Md.mut h7b trivial
          have h10 : G10 D0 = some _ := e_G10 ▸ upd_same
          clear e_G10
          refine ⟨⟨_, rfl⟩, ((m7.trans k8.up0).trans k9.up0).trans k10, _, h10, ?_⟩
          rw [chTo_succ, if_pos hl, ← List.append_assoc]
          have e : (evsTo P r s0 0) ++ chTo r true (s0.len true) i ++ [Ev.lose true i, Ev.dbl true i] = ((evsTo P r s0 0) ++ chTo r true (s0.len true) i ++ [Ev.lose true i]) ++ [Ev.dbl true i] := by simp
          rw [e, List.map_append]
          refine (((d7.md k8).md k9).md k10).append (.cons ?_ .nil)
          rw [zi] at h8
          exact D.md k10 (D.md k9 (.tup (SqT.of h8) (.cons (.str _) (.cons (.str _) (.cons (.int _) .nil)))))
        · refine ⟨sz (Nat.zero_le 1), ?_⟩
          intro p9 n9
          generalize e_G9 : upd _ p9 _ = G9
          have k9 : Md [] _ G9 := e_G9 ▸ Md.new n9
          have h9 : G9 p9 = some _ := e_G9 ▸ upd_same
          clear e_G9
          have h7b := k9.get0 h7
          refine ⟨_, _, _, _, rfl, rfl, h7b, h9, sz (m := 1000) (by simp; omega), ?_⟩
          generalize e_G10 : upd _ D0 _ = G10
          have k10 : Md [D0] _ G10 := e_G10 ▸ Md.mut h7b trivial
          have h10 : G10 D0 = some _ := e_G10 ▸ upd_same
          clear e_G10
          refine ⟨⟨_, rfl⟩, (m7.trans k9.up0).trans k10, _, h10, ?_⟩
          rw [chTo_succ, if_neg hl, ← List.append_assoc, List.append_nil]
          exact (d7.md k9).md k10
      · rintro σ H5 ⟨⟨v5, rfl⟩, m5, vs5, h5, d5⟩
        exact ⟨⟨_, _, _, _, rfl⟩, m5, vs5, h5, d5⟩
    | 1, hj =>
      cases hj
      refine ⟨_, _, rfl, m'.sqt (SqT.of hq2), rfl, _, _, rfl, _, _, rfl, rfl, ?_⟩
      -- the turn of one channel: false t, hB3 the row's SqT, lB' its length's equation, (evsTo P r s0 1) evs ahead, (evsTo_len Z 1) their bound
      have l5c := Z.len false
      have l5e := lB'
      refine ⟨_, rfl, _, _, rfl, .inr (m'.sqt hB3), _, rfl, by omega, by omega, ?_⟩
      rw [Int.toNat_natCast, lB']
      refine for_range (lo := 0) (n := s0.len false) (fun i σ H' => (∃ v5, σ = [some (.ref p), some (.ref D0), v2, some (.str (chan false)), some (.ref aB), v5]) ∧ Md [D0] G3 H' ∧ ∃ vs, H' D0 = some (.lst vs) ∧ DA K H' vs (((evsTo P r s0 1) ++ chTo r false (s0.len false) i).map Ev.d)) ?_ ?_ ?_
      · exact ⟨⟨_, rfl⟩, m', vs', h', by rw [show chTo r false (s0.len false) 0 = [] from rfl, List.append_nil]; exact d'⟩
      · rintro i σ H5 hi ⟨⟨v5, rfl⟩, m5, vs5, h5, d5⟩
        have l5 := d5.len
        rw [List.length_map, List.length_append] at l5
        have l5b := chTo_len r false (s0.len false) i
        have l5c := Z.len false
        have l5d := (evsTo_len Z 1)
        have zi : (0 : Int) + (i : Nat) = (i : Int) := by omega
        refine ⟨_, rfl, .inl ⟨rfl, _, SqL.of h5⟩, _, rfl, _, rfl, sz (Nat.le_refl 3), ?_⟩
        intro p6 n6
        generalize e_G6 : upd _ p6 _ = G6
        have k6 : Md [] _ G6 := e_G6 ▸ Md.new n6
        have h6 : G6 p6 = some _ := e_G6 ▸ upd_same
        clear e_G6
        have h5b := k6.get0 h5
        refine ⟨_, _, _, rfl, rfl, h5b, szl (m := 1000) (by omega), ?_⟩
        generalize e_G7 : upd _ D0 _ = G7
        have k7 : Md [D0] _ G7 := e_G7 ▸ Md.mut h5b trivial
        have h7 : G7 D0 = some _ := e_G7 ▸ upd_same
        clear e_G7
        have m7 : Md [D0] G3 G7 := (m5.trans k6.up0).trans k7
        have d7 : DA K G7 (vs5 ++ [V.ref p6]) (((evsTo P r s0 1) ++ chTo r false (s0.len false) i ++ [Ev.lose false i]).map Ev.d) := by
          rw [List.map_append]
          refine ((d5.md k6).md k7).append (.cons ?_ .nil)
          rw [zi] at h6
          exact D.md k7 (.tup (SqT.of h6) (.cons (.str _) (.cons (.str _) (.cons (.int _) .nil))))
        have hp7 := m7.get1 hp3 (Ne.symm nDp)
        refine ⟨_, rfl, .inl ⟨rfl, _, SqL.of h7⟩, _, rfl, _, _, rfl, .inr (m7.sqt hB3), _, rfl, _, _, _, _, _, rfl, hp7, T.cl, T.n_own_room, lk_own_room, _, _, rfl, rfl, _, rfl, ?_⟩
        rw [lB']
        refine rd_ifd (fun hl => ?_) (fun hl => ?_)
        · refine ⟨_, rfl, _, rfl, sz (Nat.le_refl 3), ?_⟩
          intro p8 n8
          generalize e_G8 : upd _ p8 _ = G8
          have k8 : Md [] _ G8 := e_G8 ▸ Md.new n8
          have h8 : G8 p8 = some _ := e_G8 ▸ upd_same
          clear e_G8
          refine ⟨sz (Nat.le_refl 1), ?_⟩
          intro p9 n9
          generalize e_G9 : upd _ p9 _ = G9
          have k9 : Md [] _ G9 := e_G9 ▸ Md.new n9
          have h9 : G9 p9 = some _ := e_G9 ▸ upd_same
          clear e_G9
          have h7b := (k8.trans k9).get0 h7
          refine ⟨_, _, _, _, rfl, rfl, h7b, h9, sz (m := 1000) (by simp; omega), ?_⟩
          generalize e_G10 : upd _ D0 _ = G10
          have k10 : Md [D0] _ G10 := e_G10 ▸ Md.mut h7b trivial
          have h10 : G10 D0 = some _ := e_G10 ▸ upd_same
          clear e_G10
          refine ⟨⟨_, rfl⟩, ((m7.trans k8.up0).trans k9.up0).trans k10, _, h10, ?_⟩
          rw [chTo_succ, if_pos hl, ← List.append_assoc]
          have e : (evsTo P r s0 1) ++ chTo r false (s0.len false) i ++ [Ev.lose false i, Ev.dbl false i] = ((evsTo P r s0 1) ++ chTo r false (s0.len false) i ++ [Ev.lose false i]) ++ [Ev.dbl false i] := by simp
          rw [e, List.map_append]
          refine (((d7.md k8).md k9).md k10).append (.cons ?_ .nil)
          rw [zi] at h8
          exact D.md k10 (D.md k9 (.tup (SqT.of h8) (.cons (.str _) (.cons (.str _) (.cons (.int _) .nil)))))
        · refine ⟨sz (Nat.zero_le 1), ?_⟩
          intro p9 n9
          generalize e_G9 : upd _ p9 _ = G9
          have k9 : Md [] _ G9 := e_G9 ▸ Md.new n9
          have h9 : G9 p9 = some _ := e_G9 ▸ upd_same
          clear e_G9
          have h7b := k9.get0 h7
          refine ⟨_, _, _, _, rfl, rfl, h7b, h9, sz (m := 1000) (by simp; omega), ?_⟩
          generalize e_G10 : upd _ D0 _ = G10
          have k10 : Md [D0] _ G10 := e_G10 ▸ Md.mut h7b trivial
          have h10 : G10 D0 = some _ := e_G10 ▸ upd_same
          clear e_G10
          refine ⟨⟨_, rfl⟩, (m7.trans k9.up0).trans k10, _, h10, ?_⟩
          rw [chTo_succ, if_neg hl, ← List.append_assoc, List.append_nil]
          exact (d7.md k9).md k10
      · rintro σ H5 ⟨⟨v5, rfl⟩, m5, vs5, h5, d5⟩
        exact ⟨⟨_, _, _, _, rfl⟩, m5, vs5, h5, d5⟩
    | n + 2, hj => simp at hj
  · rintro σ H' ⟨⟨v2, v3, v4, v5, rfl⟩, m', vs', h', d'⟩
    refine ⟨_, rfl, _, _, rfl, .inl ⟨SqL.of h', ?_⟩⟩
    intro p9 n9
    generalize e_G9 : upd _ p9 _ = G9
    have k9 : Md [] _ G9 := e_G9 ▸ Md.new n9
    have h9 : G9 p9 = some _ := e_G9 ▸ upd_same
    clear e_G9
    have nD0 : H D0 = none := k1.free0 nD
    exact k _ _ ((((M3.up0 : Md [D0] _ _).trans m').drop nD0).trans k9) (.tup (SqT.of h9) (d'.md k9))
end Dh

namespace Dh
open PySem PySem.Spec PyProof.Rows L2

theorem Md.sql1 {K : PySem.W.Frag} {p a : Addr} {H H1 : Hp} {xs : List V} (x : Md [p] H H1) (h : SqL K H a xs) (n : a ≠ p) : SqL K H1 a xs := by
  rcases h with (h | ⟨o, h⟩) | h
  · exact .inl (.inl (x.get1 h n))
  · exact .inl (.inr ⟨o, x.get1 h n⟩)
  · exact .inr h
theorem PotAt.md {H H1 : Hp} {p : Addr} {n : Nat} {ps : List Addr} (h : PotAt H p n) (m : Md ps H H1) (hn : p ∉ ps) : PotAt H1 p n := by
  obtain ⟨o, m', c, e, r⟩ := h
  exact ⟨o, m', c, m.k _ _ hn e, r⟩
theorem PotAt.md0 {H H1 : Hp} {p : Addr} {n : Nat} (h : PotAt H p n) (m : Md [] H H1) : PotAt H1 p n := h.md m fun z => nomatch z
theorem PotAt.up {H : Hp} {p : Addr} {n m : Nat} (h : PotAt H p n) (l : n ≤ m) : PotAt H p m := by
  obtain ⟨o, m', c, e, h1, h2, h3, h4, h5, h6⟩ := h
  exact ⟨o, m', c, e, h1, h2, h3, h4, h5, by omega⟩
theorem at5 {a b c d e : Int} {j : Int} (h0 : 0 ≤ j) (h1 : j < 5) (lo : Int) (ha : lo ≤ a) (hb : lo ≤ b) (hc : lo ≤ c) (hd : lo ≤ d) (he : lo ≤ e) : ∃ q, atI [V.int a, V.int b, V.int c, V.int d, V.int e] j = some (.int q) ∧ lo ≤ q ∧ q ∈ [a, b, c, d, e] := by
  have hj : j = 0 ∨ j = 1 ∨ j = 2 ∨ j = 3 ∨ j = 4 := by omega
  rcases hj with rfl | rfl | rfl | rfl | rfl
  · exact ⟨a, rfl, ha, by simp⟩
  · exact ⟨b, rfl, hb, by simp⟩
  · exact ⟨c, rfl, hc, by simp⟩
  · exact ⟨d, rfl, hd, by simp⟩
  · exact ⟨e, rfl, he, by simp⟩

abbrev st__law_take : Stmt := topS 44
theorem sc__law_take : FnScope ["pot", "upto", "digit", "prime", "blend"] ["pot", "upto"] (defScope st__law_take) := ⟨rfl, rfl, rfl, by decide +kernel, rfl, by decide +kernel, by decide +kernel⟩
theorem ok__law_take {P : Program} {w : World} {K : PySem.W.Frag} {mg : Str → Option Value} {base : Heap} {C aS aH aD f : Addr} {fd : FuncData} (F : Fun K "_law_take" "_law_take" st__law_take f fd) (T : Txt K mg C aS aH aD)
     : FnOk P w K mg base CX0 1 f fd ["pot", "upto"] (sp__law_take K C) := by
  refine F.ok sc__law_take (fun vs H Q E h => len2 h) (fun cdv A outer s H vs Q E hr h => ?_)
  refine ⟨_, (pss_cons (ps_if (pt_cmpR op_gt (pe_ix ix_list (pv 0) pe_int (fun _ _ => rfl)) pe_int (nomark _))
      (pss_cons (ps_set (i := 2) sc__law_take.nd rfl (by first | exact Or.inl rfl | exact Or.inr rfl) (pe_op op_mod (pe_callTy call_int1 (by rfl) T.b_int (by decide +kernel) (pa_cons (pe_ix ix_list (pv 0) pe_int (fun _ _ => rfl)) pa_nil)) (pv 1)))
    (pss_cons (ps_asg (pe_op op_fdiv (pe_ix ix_list (pv 0) pe_int (fun _ _ => rfl)) (pv 1)) (pg_sub (pv 0) pe_int L2.set_list))
    (pss_one (ps_ret (pv 2)))))
      pss_nil)
    (pss_cons (ps_asg (pe_op op_add (pe_ix ix_list (pv 0) pe_int (fun _ _ => rfl)) pe_int) (pg_sub (pv 0) pe_int L2.set_list))
    (pss_cons (ps_set (i := 3) sc__law_take.nd rfl (by first | exact Or.inl rfl | exact Or.inr rfl) (pe_ix ix_list (pe_lst (pa_cons pe_int (pa_cons pe_int (pa_cons pe_int (pa_cons pe_int (pa_cons pe_int pa_nil)))))) (pe_op op_mod (pe_callTy call_int1 (by rfl) T.b_int (by decide +kernel) (pa_cons (pe_ix ix_list (pv 0) pe_int (fun _ _ => rfl)) pa_nil)) pe_int) (fun _ _ => rfl)))
    (pss_cons (ps_set (i := 4) sc__law_take.nd rfl (by first | exact Or.inl rfl | exact Or.inr rfl) (pe_op op_mod (pe_callTy call_int1 (by rfl) T.b_int (by decide +kernel) (pa_cons (pe_op op_powW (pe_callTy call_int1 (by rfl) T.b_int (by decide +kernel) (pa_cons (pe_op op_add (pe_op op_add (pe_ix ix_list (pv 0) pe_int (fun _ _ => rfl)) (pe_op op_mul (pe_op op_mul pe_int (pe_ix ix_list (pv 0) pe_int (fun _ _ => rfl))) (pe_ix ix_list (pv 0) pe_int (fun _ _ => rfl)))) pe_int) pa_nil)) pe_int) pa_nil)) (pv 3)))
    (pss_cons (ps_set (i := 4) sc__law_take.nd rfl (by first | exact Or.inl rfl | exact Or.inr rfl) (pe_op op_mod (pe_callTy call_int1 (by rfl) T.b_int (by decide +kernel) (pa_cons (pe_op op_mul (pv 4) (pe_op op_add (pe_op op_mod (pe_callTy call_int1 (by rfl) T.b_int (by decide +kernel) (pa_cons (pv 4) pa_nil)) pe_int) (pe_op op_mul pe_int (pe_ix ix_list (pv 0) pe_int (fun _ _ => rfl))))) pa_nil)) pe_int))
    (pss_one (ps_ret (pe_op op_mod (pe_callTy call_int1 (by rfl) T.b_int (by decide +kernel) (pa_cons (pe_op op_fdiv (pv 4) pe_int) pa_nil)) (pv 1))))))))), ?_⟩
  obtain ⟨_, _, rfl, p, n, u, rfl, ⟨o, m, c, hp, o0, o1, m0, m1, c0, c1⟩, hn, rfl, u0, u1, k⟩ := h
  refine ⟨_, rfl, _, _, _, _, rfl, rfl, SqL.of hp, rfl, _, _, rfl, rfl, _, rfl, rd_ifd (fun ho => ?_) (fun ho => ?_)⟩
  · refine ⟨_, rfl, _, _, _, _, rfl, rfl, SqL.of hp, rfl, .inl ⟨_, rfl, _, rfl, _, _, rfl, rfl, (by show (0 : Int) < u; omega), ?_⟩⟩
    refine ⟨_, rfl, _, _, _, _, rfl, rfl, SqL.of hp, rfl, _, rfl, _, _, rfl, rfl, ⟨by omega, by omega⟩, _, rfl, _, _, _, _, rfl, rfl, hp, rfl, ?_⟩
    generalize e_G1 : upd _ p _ = G1
    have k1 : Md [p] _ G1 := e_G1 ▸ Md.mut hp trivial
    have h1 : G1 p = some _ := e_G1 ▸ upd_same
    clear e_G1
    refine ⟨_, rfl, k _ _ k1 ⟨o / u, m, c, h1, Int.ediv_nonneg o0 (by omega), ?_, m0, m1, c0, by omega⟩ (Int.emod_nonneg _ (by omega)) (Int.emod_lt_of_pos _ (by omega))⟩
    exact Int.lt_of_le_of_lt (Int.ediv_le_self _ o0) o1
  · refine ⟨_, rfl, _, _, _, _, rfl, rfl, SqL.of hp, rfl, _, _, rfl, rfl, _, rfl, _, _, _, _, rfl, rfl, hp, rfl, ?_⟩
    generalize e_G1 : upd _ p _ = G1
    have k1 : Md [p] _ G1 := e_G1 ▸ Md.mut hp trivial
    have h1 : G1 p = some _ := e_G1 ▸ upd_same
    clear e_G1
    have h1' : G1 p = some (.lst [.int o, .int m, .int (c + 1)]) := h1
    have c1' : 0 ≤ c + 1 := by omega
    have c2' : c + 1 ≤ 1000001 := by omega
    have c3' : c + 1 ≤ ((n + 1 : Nat) : Int) := by omega
    generalize c + 1 = d at h1' c1' c2' c3'
    clear h1
    have SL := SqL.of (K := K) h1'
    have five := at5 (a := 2147483647) (b := 2147483629) (c := 2147483587) (d := 2147483579) (e := 2147483563) (j := d % 5) (by omega) (by omega) 1 (by decide) (by decide) (by decide) (by decide) (by decide)
    obtain ⟨q, hq, q0, qm⟩ := five
    have q1 : q ≤ 2147483647 := by
      simp only [List.mem_cons, List.not_mem_nil, or_false] at qm
      omega
    refine ⟨sz (Nat.le_refl 5), ?_⟩
    intro l2 n2
    generalize e_G2 : upd _ l2 _ = G2
    have k2 : Md [] _ G2 := e_G2 ▸ Md.new n2
    have h2 : G2 l2 = some _ := e_G2 ▸ upd_same
    clear e_G2
    have SL2 := k2.sql0 SL
    refine ⟨_, rfl, _, _, _, _, rfl, rfl, SL2, rfl, .inl ⟨_, rfl, _, _, rfl, rfl, (by show (0 : Int) < 5; decide), _, _, _, _, rfl, rfl, SqL.of h2, hq, ?_⟩⟩
    -- blend
    refine ⟨_, rfl, _, _, _, _, rfl, rfl, SL2, rfl, _, rfl, _, _, _, _, rfl, rfl, SL2, rfl, _, _, rfl, rfl, .inl ⟨by decide, by decide⟩, _, rfl, _, _, _, _, rfl, rfl, SL2, rfl, _, _, rfl, rfl, .inr ⟨by omega, by omega⟩, _, _, rfl, rfl, _, _, rfl, rfl, .inl ⟨_, rfl, ?_⟩⟩
    have bnd : -(2 ^ 64) < m + 171508 * d * d + 10315 ∧ m + 171508 * d * d + 10315 < 2 ^ 64 := by
      have a1 : 0 ≤ d * d := Int.mul_nonneg c1' c1'
      have a2 : d * d ≤ 1000001 * 1000001 := Int.mul_le_mul c2' c2' c1' (by decide)
      have a3 : 171508 * d * d = 171508 * (d * d) := Int.mul_assoc _ _ _
      rw [a3]
      constructor <;> omega
    have hb := intBits_le_64 bnd.1 bnd.2
    refine ⟨_, _, rfl, rfl, ⟨by decide, by omega⟩, .inl ⟨_, rfl, _, rfl, _, _, rfl, rfl, (by show (0 : Int) < q; omega), ?_⟩⟩
    -- blend again
    generalize hx : (m + 171508 * d * d + 10315) ^ (3 : Int).toNat % q = x
    have x0 : 0 ≤ x := by rw [← hx]; exact Int.emod_nonneg _ (by omega)
    have x1 : x < q := by rw [← hx]; exact Int.emod_lt_of_pos _ (by omega)
    refine ⟨_, rfl, _, rfl, .inl ⟨_, rfl, _, _, rfl, rfl, (by show (0 : Int) < 40303; decide), _, rfl, _, _, _, _, rfl, rfl, SL2, rfl, _, _, rfl, rfl, .inl ⟨by decide, by decide⟩, _, _, rfl, rfl, _, _, rfl, rfl, .inl ⟨by omega, by omega⟩, .inl ⟨_, rfl, _, _, rfl, rfl, (by show (0 : Int) < 2305843009213693907; decide), ?_⟩⟩⟩
    refine ⟨_, rfl, _, _, rfl, rfl, ⟨by decide, by decide⟩, .inl ⟨_, rfl, _, rfl, _, _, rfl, rfl, (by show (0 : Int) < u; omega), ?_⟩⟩
    refine k _ _ (k1.trans k2.up0) ⟨o, m, d, k2.get0 h1', o0, o1, m0, m1, c1', ?_⟩ (Int.emod_nonneg _ (by omega)) (Int.emod_lt_of_pos _ (by omega))
    exact c3'
end Dh

namespace Dh
open PySem PySem.Spec PyProof.Rows L2

theorem PotAt.ne {H : Hp} {p q : Addr} {n : Nat} (h : PotAt H p n) (z : H q = none) : p ≠ q := by
  obtain ⟨o, m, c, e, _⟩ := h
  exact ne_of_none e z
abbrev st__law_of : Stmt := topS 45
theorem sc__law_of : FnScope ["pot", "some"] ["pot", "some"] (defScope st__law_of) := ⟨rfl, rfl, rfl, by decide +kernel, rfl, by decide +kernel, by decide +kernel⟩
theorem ok__law_of {P : Program} {w : World} {K : PySem.W.Frag} {mg : Str → Option Value} {base : Heap} {C aS aH aD f : Addr} {fd : FuncData} (F : Fun K "_law_of" "_law_of" st__law_of f fd) (T : Txt K mg C aS aH aD)
    (f__law_take : Cl P w K mg base 1 "_law_take" ["pot", "upto"] (sp__law_take K C)) : FnOk P w K mg base CX0 2 f fd ["pot", "some"] (sp__law_of K C) := by
  refine F.ok sc__law_of (fun vs H Q E h => len2 h) (fun cdv A outer s H vs Q E hr h => ?_)
  refine ⟨_, (pss_one (ps_ret (pe_ix ix_seq (pv 1) (pe_cl f__law_take hr (by decide) (by rfl) (pa_cons (pv 0) (pa_cons (pe_callB call_len_seq (by rfl) T.b_len (by decide +kernel) (pa_cons (pv 1) pa_nil)) pa_nil))) (fun _ _ => rfl)))), ?_⟩
  obtain ⟨_, _, rfl, p, n, a, xs, rfl, hpot, hn, rfl, hs, l0, l1, k⟩ := h
  refine ⟨_, rfl, _, rfl, _, rfl, _, _, rfl, hs.imp_left And.left, _, _, rfl, p, n, _, rfl, hpot, hn, rfl, by omega, by omega, fun d G1 k1 pot1 d0 d1 => ?_⟩
  have hd : d.toNat < xs.length := by omega
  have e : xs[d.toNat]? = some xs[d.toNat] := List.getElem?_eq_getElem hd
  have ea := atI_nat e
  rw [Int.toNat_of_nonneg d0] at ea
  have q := k xs[d.toNat] G1 k1 pot1 (List.getElem_mem hd)
  rcases hs with ⟨hs, hap⟩ | hs
  · exact .inl ⟨a, xs, d, _, rfl, rfl, k1.sql1 hs hap, ea, q⟩
  · exact .inr (.inl ⟨a, xs, d, _, rfl, rfl, k1.sqt hs, ea, q⟩)

theorem erase_perm {α : Type} : ∀ (l : List α) (i : Nat) (hi : i < l.length), (l[i] :: l.eraseIdx i).Perm l
  | [], i, hi => absurd hi (Nat.not_lt_zero i)
  | x :: xs, 0, _ => List.Perm.refl _
  | x :: xs, i + 1, hi => by
    have hi' : i < xs.length := Nat.lt_of_succ_lt_succ hi
    have ih := erase_perm xs i hi'
    show (xs[i] :: x :: xs.eraseIdx i).Perm (x :: xs)
    exact (List.Perm.swap _ _ _).trans (ih.cons x)
theorem perm_take {xs ys zs : List V} {i : Nat} {y : V} (h : (ys ++ zs).Perm xs) (hy : zs[i]? = some y) : (ys ++ [y] ++ zs.eraseIdx i).Perm xs := by
  have hi := (List.getElem?_eq_some_iff.mp hy)
  obtain ⟨hi, e⟩ := hi
  have q : (y :: zs.eraseIdx i).Perm zs := by
    rw [← e]
    exact erase_perm zs i hi
  rw [List.append_assoc]
  exact ((q.append_left ys)).trans h
abbrev st__law_some : Stmt := topS 46
theorem sc__law_some : FnScope ["pot", "some", "many", "left", "found", "lap"] ["pot", "some", "many"] (defScope st__law_some) := ⟨rfl, rfl, rfl, by decide +kernel, rfl, by decide +kernel, by decide +kernel⟩
theorem ok__law_some {P : Program} {w : World} {K : PySem.W.Frag} {mg : Str → Option Value} {base : Heap} {C aS aH aD f : Addr} {fd : FuncData} (F : Fun K "_law_some" "_law_some" st__law_some f fd) (T : Txt K mg C aS aH aD)
    (f__law_take : Cl P w K mg base 1 "_law_take" ["pot", "upto"] (sp__law_take K C)) : FnOk P w K mg base CX0 2 f fd ["pot", "some", "many"] (sp__law_some K C) := by
  refine F.ok sc__law_some (fun vs H Q E h => len3 h) (fun cdv A outer s H vs Q E hr h => ?_)
  refine ⟨_, (pss_cons (ps_par (i := 3) (j := 4) rfl sc__law_some.nd rfl rfl (by decide) rfl rfl (pa_cons (pe_callTy call_list_of (by rfl) T.b_list (by decide +kernel) (pa_cons (pv 1) pa_nil)) (pa_cons (pe_lst pa_nil) pa_nil)) (by rfl))
    (pss_cons (ps_for PassesOwn.never rfl (pi_range1 (by rfl) T.b_range (pa_cons (pe_callB (call_min2 rfl) (by rfl) T.b_min (by decide +kernel) (pa_cons (pv 2) (pa_cons (pe_callB call_len_seq (by rfl) T.b_len (by decide +kernel) (pa_cons (pv 3) pa_nil)) pa_nil))) pa_nil)) (pg_name (i := 5) sc__law_some.nd rfl (by first | exact Or.inl rfl | exact Or.inr rfl))
      (pss_one (ps_expr (pe_bm PySem.F.plainAttrs_list PySem.F.slot_list_append PySem.F.type_list_append mt_append (pv 4) (pa_cons (pe_bm PySem.F.plainAttrs_list PySem.F.slot_list_pop PySem.F.type_list_pop mt_popAt (pv 3) (pa_cons (pe_cl f__law_take hr (by decide) (by rfl) (pa_cons (pv 0) (pa_cons (pe_callB call_len_seq (by rfl) T.b_len (by decide +kernel) (pa_cons (pv 3) pa_nil)) pa_nil))) pa_nil)) pa_nil)))))
    (pss_one (ps_ret (pv 4))))), ?_⟩
  obtain ⟨_, _, _, rfl, p, n, a, xs, m, rfl, hpot, hn, rfl, hs, hap, hz, rfl, k⟩ := h
  refine ⟨_, rfl, _, _, rfl, .inl hs, ?_⟩
  intro L n1
  generalize e_G1 : upd _ L _ = G1
  have k1 : Md [] _ G1 := e_G1 ▸ Md.new n1
  have h1 : G1 L = some _ := e_G1 ▸ upd_same
  clear e_G1
  refine ⟨Nat.zero_le _, ?_⟩
  intro F0 n2
  generalize e_G2 : upd _ F0 _ = G2
  have k2 : Md [] _ G2 := e_G2 ▸ Md.new n2
  have h2 : G2 F0 = some _ := e_G2 ▸ upd_same
  clear e_G2
  refine ⟨_, _, rfl, ?_⟩
  have h1' := k2.get0 h1
  have nLF : L ≠ F0 := ne_of_none h1 n2
  have npL : p ≠ L := hpot.ne n1
  have npF : p ≠ F0 := hpot.ne (k1.free0 n2)
  have hpot2 := (hpot.md0 k1).md0 k2
  refine ⟨_, rfl, _, rfl, _, _, rfl, .inl (SqL.of h1'), _, _, rfl, ?_⟩
  have emin : (if ((xs.length : Nat) : Int) < ((m : Nat) : Int) then ((xs.length : Nat) : Int) else ((m : Nat) : Int)) = ((min m xs.length : Nat) : Int) := by
    split <;> omega
  rw [emin]
  refine ⟨_, rfl, by omega, by omega, ?_⟩
  rw [Int.toNat_natCast]
  refine for_range (lo := 0) (n := min m xs.length) (fun i σ H' => (∃ v5, σ = [some (.ref p), some (.ref a), some (.int (m : Nat)), some (.ref L), some (.ref F0), v5]) ∧ Md [L, F0, p] G2 H' ∧ PotAt H' p (n + i) ∧ ∃ ys zs, H' F0 = some (.lst ys) ∧ H' L = some (.lst zs) ∧ (ys ++ zs).Perm xs ∧ ys.length = i) ?_ ?_ ?_
  · exact ⟨⟨_, rfl⟩, .refl, hpot2, [], xs, h2, h1', List.Perm.refl _, rfl⟩
  · rintro i σ H5 hi ⟨⟨v5, rfl⟩, m5, pot5, ys, zs, hF, hL, perm, hly⟩
    have hlen := perm.length_eq
    rw [List.length_append] at hlen
    refine ⟨_, rfl, .inl ⟨rfl, _, SqL.of hF⟩, _, rfl, .inl ⟨rfl, _, SqL.of hL⟩, _, rfl, _, rfl, _, _, rfl, .inl (SqL.of hL), ?_⟩
    refine ⟨_, _, rfl, p, n + i, _, rfl, pot5, by omega, rfl, by omega, by omega, fun d G6 k6 pot6 d0 d1 => ?_⟩
    have hL6 := k6.get1 hL (Ne.symm npL)
    have hF6 := k6.get1 hF (Ne.symm npF)
    have hd : d.toNat < zs.length := by omega
    have ey : zs[d.toNat]? = some zs[d.toNat] := List.getElem?_eq_getElem hd
    have eseq : seqIndex? d zs.length = some d.toNat := by
      unfold seqIndex?
      have h3 : ¬ d < 0 := by omega
      simp only [h3, if_false]
      rw [if_pos (by simp; omega)]
    refine ⟨_, _, _, _, _, rfl, rfl, hL6, by omega, by omega, eseq, ey, ?_⟩
    generalize e_G7 : upd _ L _ = G7
    have k7 : Md [L] _ G7 := e_G7 ▸ Md.mut hL6 trivial
    have h7 : G7 L = some _ := e_G7 ▸ upd_same
    clear e_G7
    have hF7 := k7.get1 hF6 (Ne.symm nLF)
    refine ⟨_, _, _, rfl, rfl, hF7, szl (m := 1000) (by omega), ?_⟩
    generalize e_G8 : upd _ F0 _ = G8
    have k8 : Md [F0] _ G8 := e_G8 ▸ Md.mut hF7 trivial
    have h8 : G8 F0 = some _ := e_G8 ▸ upd_same
    clear e_G8
    have hL8 := k8.get1 h7 nLF
    refine ⟨⟨_, rfl⟩, ?_, ?_, ys ++ [zs[d.toNat]], _, h8, hL8, perm_take perm ey, by simp [hly]⟩
    · exact ((m5.trans (k6.up (by simp))).trans (k7.up (by simp))).trans (k8.up (by simp))
    · exact ((pot6.md k7 (by simpa using npL)).md k8 (by simpa using npF))
  · rintro σ H5 ⟨⟨v5, rfl⟩, m5, pot5, ys, zs, hF, hL, perm, hly⟩
    refine ⟨_, rfl, k F0 H5 ys zs (k1.free0 n2) ?_ (pot5.up (by omega)) hF perm hly⟩
    have M : Md [L, F0, p] H H5 := (k1.trans k2).up0.trans m5
    exact (M.drop n1).drop (k1.free0 n2)

abbrev st__law_cells : Stmt := topS 47
theorem sc__law_cells : FnScope ["script", "most"] ["script", "most"] (defScope st__law_cells) := ⟨rfl, rfl, rfl, by decide +kernel, rfl, by decide +kernel, by decide +kernel⟩
theorem ok__law_cells {P : Program} {w : World} {K : PySem.W.Frag} {mg : Str → Option Value} {base : Heap} {C aS aH aD f : Addr} {fd : FuncData} (F : Fun K "_law_cells" "_law_cells" st__law_cells f fd) (T : Txt K mg C aS aH aD)
     : FnOk P w K mg base CX0 1 f fd ["script", "most"] (sp__law_cells K C) := by
  refine F.ok sc__law_cells (fun vs H Q E h => len2 h) (fun cdv A outer s H vs Q E hr h => ?_)
  refine ⟨_, (pss_one (ps_ret (pe_listRg rfl (by rfl) T.b_list (prg_1 (by rfl) T.b_range (pe_callB (call_max2 rfl) (by rfl) T.b_max (by decide +kernel) (pa_cons pe_int (pa_cons (pe_callB (call_min2 rfl) (by rfl) T.b_min (by decide +kernel) (pa_cons (pv 1) (pa_cons (pe_callB call_len_seq (by rfl) T.b_len (by decide +kernel) (pa_cons (pv 0) pa_nil)) pa_nil))) pa_nil))))))), ?_⟩
  obtain ⟨_, _, rfl, a, xs, rfl, hs, hz, rfl, k⟩ := h
  refine ⟨_, rfl, _, rfl, _, _, rfl, .inl hs, _, _, rfl, _, _, rfl, _, rfl, ?_⟩
  have emin : (if ((xs.length : Nat) : Int) < 2 then ((xs.length : Nat) : Int) else 2) = ((min 2 xs.length : Nat) : Int) := by
    split <;> omega
  rw [emin]
  have emax : (if ((min 2 xs.length : Nat) : Int) > 1 then ((min 2 xs.length : Nat) : Int) else 1) = ((max 1 (min 2 xs.length) : Nat) : Int) := by
    split <;> omega
  rw [emax]
  refine ⟨RgOk.of_le (by omega) (by omega) (by omega) (by omega), ?_⟩
  intro q n1
  generalize e_G1 : upd _ q _ = G1
  have k1 : Md [] _ G1 := e_G1 ▸ Md.new n1
  have h1 : G1 q = some _ := e_G1 ▸ upd_same
  clear e_G1
  exact k q G1 _ n1 k1 (by omega) (by omega) h1

abbrev st__law_tells : Stmt := topS 49
theorem sc__law_tells : FnScope ["wire"] ["wire"] (defScope st__law_tells) := ⟨rfl, rfl, rfl, by decide +kernel, rfl, by decide +kernel, by decide +kernel⟩
theorem ok__law_tells {P : Program} {w : World} {K : PySem.W.Frag} {mg : Str → Option Value} {base : Heap} {C aS aH aD f : Addr} {fd : FuncData} (F : Fun K "_law_tells" "_law_tells" st__law_tells f fd) (T : Txt K mg C aS aH aD)
    (p_known : Prp P w K mg base 1 C "known" (sp_Wire_known K C))
    (p_got : Prp P w K mg base 1 C "got" (sp_Wire_got K C))
    (p_bits : Prp P w K mg base 1 C "bits" (sp_Wire_bits K C))
    (p_letters : Prp P w K mg base 1 C "letters" (sp_Wire_letters K C))
    (p_answers : Prp P w K mg base 1 C "answers" (sp_Wire_answers K C))
    (p_standing : Prp P w K mg base 1 C "standing" (sp_Wire_standing K C)) : FnOk P w K mg base CX0 3 f fd ["wire"] (sp__law_tells K C) := by
  refine F.ok sc__law_tells (fun vs H Q E h => len1 h) (fun cdv A outer s H vs Q E hr h => ?_)
  refine ⟨_, (pss_one (ps_ret (pe_tup (pa_cons (pe_pr p_known hr (by decide) (pv 0)) (pa_cons (pe_pr p_got hr (by decide) (pv 0)) (pa_cons (pe_pr p_bits hr (by decide) (pv 0)) (pa_cons (pe_pr p_letters hr (by decide) (pv 0)) (pa_cons (pe_pr p_answers hr (by decide) (pv 0)) (pa_cons (pe_pr p_standing hr (by decide) (pv 0)) pa_nil))))))))), ?_⟩
  obtain ⟨_, rfl, p, P, r, s0, rfl, wa, k⟩ := h
  have wa' := wa
  obtain ⟨dx, vP, vG, vT, vB, hp, dP, dG, dT, dB⟩ := wa'
  refine ⟨_, rfl, p, dx, _, rfl, hp, _, rfl, p, P, r, s0, rfl, wa, ?_⟩
  refine ⟨_, rfl, p, dx, _, rfl, hp, _, rfl, p, P, r, s0, rfl, wa, fun v1 d1 => ?_⟩
  refine ⟨_, rfl, p, dx, _, rfl, hp, _, rfl, p, P, r, s0, rfl, wa, fun v2 G2 k2 d2 => ?_⟩
  have hp2 := k2.get0 hp
  have wa2 := wa.md0 k2
  refine ⟨_, rfl, p, dx, _, rfl, hp2, _, rfl, p, P, r, s0, rfl, wa2, fun v3 d3 => ?_⟩
  refine ⟨_, rfl, p, dx, _, rfl, hp2, _, rfl, p, P, r, s0, rfl, wa2, fun v4 d4 => ?_⟩
  refine ⟨_, rfl, p, dx, _, rfl, hp2, _, rfl, p, P, r, s0, rfl, wa2, fun v5 G5 k5 d5 => ?_⟩
  refine ⟨sz (Nat.le_refl 6), ?_⟩
  intro q n6
  generalize e_G6 : upd _ q _ = G6
  have k6 : Md [] _ G6 := e_G6 ▸ Md.new n6
  have h6 : G6 q = some _ := e_G6 ▸ upd_same
  clear e_G6
  have m6 := k5.trans k6
  exact k _ _ (k2.trans m6) (.tup (SqT.of h6) (.cons (.int _) (.cons (d1.md (k2.trans m6)) (.cons (d2.md m6) (.cons (d3.md m6) (.cons (d4.md m6) (.cons (d5.md k6) .nil)))))))
end Dh

namespace Dh
open PySem PySem.Spec PyProof.Rows L2


theorem b01 (b : Bool) : -(2 ^ 64) < (if b = true then (1 : Int) else 0) ∧ (if b = true then (1 : Int) else 0) < 2 ^ 64 := by cases b <;> decide
abbrev st__law_pot : Stmt := topS 43
theorem sc__law_pot : FnScope ["script", "place", "cell", "own", "small"] ["script", "place"] (defScope st__law_pot) := ⟨rfl, rfl, rfl, by decide +kernel, rfl, by decide +kernel, by decide +kernel⟩
theorem ok__law_pot {P : Program} {w : World} {K : PySem.W.Frag} {mg : Str → Option Value} {base : Heap} {C aS aH aD f : Addr} {fd : FuncData} (F : Fun K "_law_pot" "_law_pot" st__law_pot f fd) (T : Txt K mg C aS aH aD)
     : FnOk P w K mg base CX0 1 f fd ["script", "place"] (sp__law_pot K C) := by
  refine F.ok sc__law_pot (fun vs H Q E h => len2 h) (fun cdv A outer s H vs Q E hr h => ?_)
  refine ⟨_, (pss_cons (ps_set (i := 2) sc__law_pot.nd rfl (by first | exact Or.inl rfl | exact Or.inr rfl) (pe_ifExp (pt_cmpR op_lt (pv 1) (pe_callB call_len_seq (by rfl) T.b_len (by decide +kernel) (pa_cons (pv 0) pa_nil)) (nomark _)) (pe_ix ix_list (pv 0) (pv 1) (fun _ _ => rfl)) (pe_op op_add (pe_op op_add (pe_op op_mod (pe_callB (cr_sum rfl) (by rfl) T.b_sum (by decide +kernel) (pa_cons (pe_slice sl_list (pv 0) po_none (po_some pe_int)) pa_nil)) pe_int) (pe_op op_mul pe_int (pv 1))) pe_int)))
    (pss_cons (ps_set (i := 3) sc__law_pot.nd rfl (by first | exact Or.inl rfl | exact Or.inr rfl) (pe_op op_mul (pe_op op_mod (pe_callTy call_int1 (by rfl) T.b_int (by decide +kernel) (pa_cons (pe_callB call_abs (by rfl) T.b_abs (by decide +kernel) (pa_cons (pv 2) pa_nil)) pa_nil)) (pe_op op_powW (pe_op op_powW pe_int pe_int) pe_int)) (pe_callTy call_int1 (by rfl) T.b_int (by decide +kernel) (pa_cons (pe_cmpR op_ge (pe_callB call_abs (by rfl) T.b_abs (by decide +kernel) (pa_cons (pv 2) pa_nil)) (pe_op op_powW pe_int pe_int) (nomark _)) pa_nil))))
    (pss_cons (ps_set (i := 4) sc__law_pot.nd rfl (by first | exact Or.inl rfl | exact Or.inr rfl) (pe_op op_mod (pe_callTy call_int1 (by rfl) T.b_int (by decide +kernel) (pa_cons (pv 2) pa_nil)) pe_int))
    (pss_one (ps_ret (pe_lst (pa_cons (pv 3) (pa_cons (pe_op op_mod (pe_callTy call_int1 (by rfl) T.b_int (by decide +kernel) (pa_cons (pe_op op_add (pe_op op_add (pe_op op_mul (pv 4) pe_int) (pe_op op_mul (pe_op op_mul pe_int (pv 1)) (pv 1))) pe_int) pa_nil)) pe_int) (pa_cons pe_int pa_nil))))))))), ?_⟩
  obtain ⟨_, _, rfl, a, ns, i, rfl, hs, rfl, hi, k⟩ := h
  have fin : ∀ (ce : Int) (G : Hp), Md [] H G → ∀ (x y : Int), 0 ≤ x → x < 2 ^ 1000 → 0 ≤ y → y < 2 ^ 61 → ∀ p, G p = none → Q (.ref p) (upd G p (.lst [.int x, .int y, .int 0])) := by
    intro ce G m x y x0 x1 y0 y1
    intro p n2
    generalize e_G2 : upd _ p _ = G2
    have k2 : Md [] _ G2 := e_G2 ▸ Md.new n2
    have h2 : G2 p = some _ := e_G2 ▸ upd_same
    clear e_G2
    exact k p G2 (m.free0 n2) (m.trans k2) ⟨x, y, 0, h2, x0, x1, y0, y1, Int.le_refl _, Int.le_refl _⟩
  have own : ∀ (u : Int) (b : Bool), 0 ≤ u % (10 ^ (60 : Int).toNat) ^ (5 : Int).toNat * (if b = true then 1 else 0) ∧ u % (10 ^ (60 : Int).toNat) ^ (5 : Int).toNat * (if b = true then 1 else 0) < 2 ^ 1000 := by
    intro u b
    have h0 : (0 : Int) < (10 ^ (60 : Int).toNat) ^ (5 : Int).toNat := by decide +kernel
    have h1 : ((10 ^ (60 : Int).toNat) ^ (5 : Int).toNat : Int) < 2 ^ 1000 := by decide +kernel
    have h2 := Int.emod_nonneg u (Int.ne_of_gt h0)
    have h3 := Int.emod_lt_of_pos u h0
    cases b
    · rw [if_neg Bool.false_ne_true, Int.mul_zero]
      exact ⟨Int.le_refl _, by decide +kernel⟩
    · rw [if_pos rfl, Int.mul_one]
      exact ⟨h2, Int.lt_trans h3 h1⟩
  have small : ∀ u : Int, 0 ≤ u % 2305843009213693921 ∧ u % 2305843009213693921 < 2 ^ 61 := fun u => ⟨Int.emod_nonneg _ (by decide), Int.lt_trans (Int.emod_lt_of_pos _ (by decide)) (by decide)⟩
  refine ⟨_, rfl, _, rfl, _, _, rfl, .inl hs, _, _, rfl, rfl, _, rfl, ?_⟩
  rw [List.length_map]
  refine rd_ifd (fun hl => ?_) (fun hl => ?_)
  · have e : (ns.map V.int)[i]? = some (V.int (ns[i]'(by omega))) := by
      rw [List.getElem?_map, List.getElem?_eq_getElem (by omega)]
      rfl
    refine ⟨_, rfl, _, rfl, _, _, _, _, rfl, rfl, hs, atI_nat e, ?_⟩
    -- a the cell, a the heap's Md
    refine ⟨_, rfl, _, rfl, .inl ⟨_, rfl, _, _, rfl, rfl, ⟨by decide, by decide +kernel⟩, _, _, rfl, rfl, ⟨by decide, by decide +kernel⟩, _, _, rfl, rfl, (by show (0 : Int) < (10 ^ Int.toNat 60) ^ Int.toNat 5; decide +kernel), ?_⟩⟩
    refine ⟨_, rfl, _, rfl, _, _, rfl, rfl, ⟨by decide, by decide +kernel⟩, _, _, rfl, rfl, .inr ⟨_, rfl, _, _, rfl, rfl, .inr (b01 _), ?_⟩⟩
    refine ⟨_, rfl, .inl ⟨_, rfl, _, _, rfl, rfl, (by show (0 : Int) < 2305843009213693951; decide), ?_⟩⟩
    refine ⟨_, rfl, _, rfl, _, _, rfl, rfl, .inr ⟨by decide, by decide⟩, _, rfl, _, _, rfl, rfl, .inl ⟨by decide, by decide⟩, _, rfl, _, _, rfl, rfl, .inr ⟨by omega, by omega⟩, _, _, rfl, rfl, _, _, rfl, rfl, .inl ⟨_, rfl, _, _, rfl, rfl, (by show (0 : Int) < 2305843009213693921; decide), sz (Nat.le_refl 3), ?_⟩⟩
    exact fin 0 H .refl _ _ (own _ _).1 (own _ _).2 (small _).1 (small _).2
  · refine ⟨_, rfl, _, rfl, _, _, rfl, hs, ?_⟩
    intro p1 n1
    generalize e_G1 : upd _ p1 _ = G1
    have k1 : Md [] _ G1 := e_G1 ▸ Md.new n1
    have h1 : G1 p1 = some _ := e_G1 ▸ upd_same
    clear e_G1
    have e : cutV (ns.map V.int) none (some 1) = (ns.take 1).map V.int := by
      unfold cutV
      rw [HT.sIx_none, List.drop_zero, Nat.sub_zero, show (some (1 : Int)) = some ((1 : Nat) : Int) from rfl, HT.sIx_nat, List.length_map, ← List.map_take]
      exact congrArg (List.map V.int) (List.take_eq_take_min ..).symm
    rw [e] at h1
    refine ⟨_, _, rfl, SqL.of h1, _, _, rfl, rfl, (by show (0 : Int) < 1000003; decide), _, rfl, _, _, rfl, rfl, .inl ⟨by decide, by decide⟩, _, _, rfl, rfl, _, _, rfl, rfl, ?_⟩
    -- a the cell, a the heap's Md
    refine ⟨_, rfl, _, rfl, .inl ⟨_, rfl, _, _, rfl, rfl, ⟨by decide, by decide +kernel⟩, _, _, rfl, rfl, ⟨by decide, by decide +kernel⟩, _, _, rfl, rfl, (by show (0 : Int) < (10 ^ Int.toNat 60) ^ Int.toNat 5; decide +kernel), ?_⟩⟩
    refine ⟨_, rfl, _, rfl, _, _, rfl, rfl, ⟨by decide, by decide +kernel⟩, _, _, rfl, rfl, .inr ⟨_, rfl, _, _, rfl, rfl, .inr (b01 _), ?_⟩⟩
    refine ⟨_, rfl, .inl ⟨_, rfl, _, _, rfl, rfl, (by show (0 : Int) < 2305843009213693951; decide), ?_⟩⟩
    refine ⟨_, rfl, _, rfl, _, _, rfl, rfl, .inr ⟨by decide, by decide⟩, _, rfl, _, _, rfl, rfl, .inl ⟨by decide, by decide⟩, _, rfl, _, _, rfl, rfl, .inr ⟨by omega, by omega⟩, _, _, rfl, rfl, _, _, rfl, rfl, .inl ⟨_, rfl, _, _, rfl, rfl, (by show (0 : Int) < 2305843009213693921; decide), sz (Nat.le_refl 3), ?_⟩⟩
    exact fin 0 G1 k1 _ _ (own _ _).1 (own _ _).2 (small _).1 (small _).2
end Dh

namespace Dh
open PySem PySem.Spec PyProof.Rows L2

theorem ev_hear {e : Ev} (h : e.d = Ev.hear.d) : e = .hear := by
  cases e with
  | hear => rfl
  | say => exact absurd h.symm say_hear
  | heard => exact absurd h hear_heard
  | lose t i => exact absurd h (placed_ne (l := true))
  | dbl t i => exact absurd h (placed_ne (l := false))
theorem mem_evs {K : PySem.W.Frag} {H : Hp} {xs : List V} {l : List Ev} {x : V} (h : DA K H xs (l.map Ev.d)) (hx : x ∈ xs) : ∃ e, e ∈ l ∧ D K H x (Ev.d e) := by
  obtain ⟨i, hi⟩ := List.getElem?_of_mem hx
  obtain ⟨e, he, de⟩ := evs_get h hi
  exact ⟨e, List.mem_of_getElem? he, de⟩
def evLen : Ev → Nat
  | .say | .hear | .heard => 1
  | _ => 3
theorem ev_sq {K : PySem.W.Frag} {H : Hp} {x : V} {e : Ev} (h : D K H x (Ev.d e)) : ∃ a ys, x = .ref a ∧ SqT K H a ys ∧ ys.length = evLen e := by
  have : ∃ ds, Ev.d e = .tuple ds ∧ ds.length = evLen e := by cases e <;> exact ⟨_, rfl, rfl⟩
  obtain ⟨ds, hd, hl⟩ := this
  rw [hd] at h
  obtain ⟨a, xs, rfl, hs, ha⟩ := h.tup_inv
  exact ⟨a, xs, rfl, hs, by rw [ha.len, hl]⟩
theorem via_asg {te : TE} {i : Nat} {D : Ends} {σ : L2.St} {H : Hp} (Pst : V → Hp → Prop) (h1 : ∀ Q' : VK, (∀ v G', Pst v G' → Q' v G') → te σ H Q') (h2 : ∀ v G', Pst v G' → D.nx (σ.set i (some v)) G') : tAsg te (gName i) D σ H := h1 _ h2
theorem via_seq {te : TE} {i : Nat} {u : TS} {D : Ends} {σ : L2.St} {H : Hp} (Pst : V → Hp → Prop) (h1 : ∀ Q' : VK, (∀ v G', Pst v G' → Q' v G') → te σ H Q') (h2 : ∀ v G', Pst v G' → u D (σ.set i (some v)) G') : tSeq (tAsg te (gName i)) u D σ H := h1 _ h2
theorem fmI_mem {f : Nat → V → Option V} (hf : ∀ n x y, f n x = some y → y = x) : ∀ {n : Nat} {xs : List V} {y : V}, y ∈ fmI f n xs → y ∈ xs
  | _, [], _, h => by simp [fmI] at h
  | n, x :: xs, y, h => by
    have h' : y ∈ (f n x).toList ++ fmI f (n + 1) xs := h
    rcases List.mem_append.mp h' with h' | h'
    · cases e : f n x with
      | none => rw [e] at h'; simp at h'
      | some z =>
        rw [e] at h'
        have : y = z := by simpa using h'
        rw [this, hf n x z e]
        exact List.mem_cons_self
    · exact List.mem_cons_of_mem _ (fmI_mem hf h')
theorem da_of_mem {K : PySem.W.Frag} {H : Hp} : ∀ {vs : List V}, (∀ v ∈ vs, ∃ e, D K H v (Ev.d e)) → ∃ es : List Ev, DA K H vs (es.map Ev.d)
  | [], _ => ⟨[], .nil⟩
  | v :: vs, h => by
    obtain ⟨e, he⟩ := h v List.mem_cons_self
    obtain ⟨es, hes⟩ := da_of_mem (vs := vs) fun u hu => h u (List.mem_cons_of_mem _ hu)
    exact ⟨e :: es, .cons he hes⟩
theorem listE_shaped (l : List Ev) : SeqAt.shaped (.list (l.map Ev.d)) = true := by
  show (PyData.canLay0 (.list (l.map Ev.d)) && decide (PyData.depth (.list (l.map Ev.d)) ≤ 64)) = true
  rw [Bool.and_eq_true]
  have h := evs_depth l
  exact ⟨by simpa [PyData.canLay0] using plainA_lay _ (evs_plain l), decide_eq_true (by simp only [PyData.depth]; omega)⟩
/-- a list of events is not [] -/
theorem rd_neL {K : PySem.W.Frag} {a b : Addr} {H : Hp} {Q : VK} {vs : List V} {es : List Ev} (h1 : SqL K H a vs) (hd : DA K H vs (es.map Ev.d)) (h2 : SqL K H b []) (q : ∀ b : Bool, (b = true ↔ es ≠ []) → Q (.bl b) H) : rNeD K (.ref a) (.ref b) H Q := by
  refine ⟨_, _, .lst h1 hd.dp, .lst h2 .nil, listE_shaped es, listE_shaped [], q _ ?_⟩
  cases es with
  | nil => simp [PyData.eqv, PyData.eqvAll]
  | cons e es => simp [PyData.eqv, PyData.eqvAll]

abbrev st__law_going : Stmt := topS 48
theorem sc__law_going : FnScope ["pot", "packets", "room", "many", "wire", "events", "is_lost", "lap", "now", "plain", "event"] ["pot", "packets", "room", "many"] (defScope st__law_going) := ⟨rfl, rfl, rfl, by decide +kernel, rfl, by decide +kernel, by decide +kernel⟩
theorem ok__law_going {P : Program} {w : World} {K : PySem.W.Frag} {mg : Str → Option Value} {base : Heap} {C aS aH aD f : Addr} {fd : FuncData} (F : Fun K "_law_going" "_law_going" st__law_going f fd) (T : Txt K mg C aS aH aD)
    (k_Wire : Mkr P w K mg base 4 "Wire" C ["self", "packets", "room"] (sp_Wire___init__ K C))
    (f_events_now : Cl P w K mg base 5 "events_now" ["wire"] (sp_events_now K C))
    (m_go_on : Mt P w K mg base 5 C "go_on" ["self", "event"] (sp_Wire_go_on K C))
    (f__law_of : Cl P w K mg base 2 "_law_of" ["pot", "some"] (sp__law_of K C))
    (f__law_take : Cl P w K mg base 1 "_law_take" ["pot", "upto"] (sp__law_take K C))
    (p_answers : Prp P w K mg base 1 C "answers" (sp_Wire_answers K C)) : FnOk P w K mg base CX0 6 f fd ["pot", "packets", "room", "many"] (sp__law_going K C) := by
  refine F.ok sc__law_going (fun vs H Q E h => len4 h) (fun cdv A outer s H vs Q E hr h => ?_)
  refine ⟨_, (pss_cons (ps_par3 (i := 4) (j := 5) (l := 6) rfl sc__law_going.nd rfl rfl rfl (by decide) (by decide) (by decide) rfl rfl rfl (pa_cons (pe_mkK k_Wire hr (by decide) (by rfl) (pk_cons (pv 1) (pk_cons (pv 2) pk_nil))) (pa_cons (pe_lst pa_nil) (pa_cons pe_bl pa_nil))) (by rfl))
    (pss_cons (ps_for PassesOwn.never rfl (pi_range1 (by rfl) T.b_range (pa_cons (pv 3) pa_nil)) (pg_name (i := 7) sc__law_going.nd rfl (by first | exact Or.inl rfl | exact Or.inr rfl))
      (pss_cons (ps_set (i := 8) sc__law_going.nd rfl (by first | exact Or.inl rfl | exact Or.inr rfl) (pe_clK f_events_now hr (by decide) (by rfl) (pk_cons (pv 4) pk_nil)))
    (pss_cons (ps_setLc (i := 9) (own := [("event", 10)]) (by rfl) sc__law_going.nd rfl rfl (sw_true rfl rfl rfl (by decide +kernel)) (pi_tup (pv 8)) (blkOk_by (N := ["pot", "packets", "room", "many", "wire", "events", "is_lost", "lap", "now", "plain", "event"]) (sc := defScope st__law_going) (own := [("event", 10)]) (by decide +kernel)) (fun _ _ _ _ _ => (pg_name (i := 10) sc__law_going.nd rfl (by first | exact Or.inl rfl | exact Or.inr rfl))) (fun _ _ _ _ _ => (pts_one (pt_cmpR op_eq (pe_callB (call_lenK K) (by rfl) T.b_len (by decide +kernel) (pa_cons (pv 10) pa_nil)) pe_int (nomark _)))) (fun _ _ _ _ _ => (pv 10)))
    (pss_one (ps_if (pt_cmpR (op_neD hr.units) (pv 8) (pe_tup pa_nil) (nomark _))
      (pss_cons (ps_set (i := 10) sc__law_going.nd rfl (by first | exact Or.inl rfl | exact Or.inr rfl) (pe_ifExp (PW.pt (pw_and (pt_cmpR (op_neD hr.units) (pv 9) (pe_lst pa_nil) (nomark _)) (pw_and1 (pt_cmpR op_gt (pe_cl f__law_take hr (by decide) (by rfl) (pa_cons (pv 0) (pa_cons pe_int pa_nil))) pe_int (nomark _))))) (pe_cl f__law_of hr (by decide) (by rfl) (pa_cons (pv 0) (pa_cons (pv 9) pa_nil))) (pe_cl f__law_of hr (by decide) (by rfl) (pa_cons (pv 0) (pa_cons (pv 8) pa_nil)))))
    (pss_cons (ps_set (i := 6) sc__law_going.nd rfl (by first | exact Or.inl rfl | exact Or.inr rfl) (pe_or (pv 6) (pe_one (pe_and (pe_cmpR (op_eqD hr.units) (pv 10) (pe_tup (pa_cons pe_str pa_nil)) (nomark _)) (pe_one (pe_cmpR op_eq (pe_callB call_len_seq (by rfl) T.b_len (by decide +kernel) (pa_cons (pe_pr p_answers hr (by decide) (pv 4)) pa_nil)) (pv 2) (nomark _)))))))
    (pss_cons (ps_expr (pe_mtK m_go_on hr (by decide) (pv 4) (pk_cons (pv 10) pk_nil)))
    (pss_one (ps_expr (pe_bm PySem.F.plainAttrs_list PySem.F.slot_list_append PySem.F.type_list_append mt_append (pv 5) (pa_cons (pv 10) pa_nil)))))))
      pss_nil)))))
    (pss_one (ps_ret (pe_tup (pa_cons (pv 4) (pa_cons (pe_callTy call_tuple_of (by rfl) T.b_tuple (by decide +kernel) (pa_cons (pv 5) pa_nil)) (pa_cons (pv 6) pa_nil)))))))), ?_⟩
  obtain ⟨_, vP0, _, _, rfl, p, n, P, r, m, rfl, hpot, hn, dP, rfl, A0, rfl, hm, k⟩ := h
  refine ⟨_, rfl, _, rfl, rfl, rfl, ?_⟩
  intro w dy nw ndy nwy
  generalize e_G : upd (upd H dy (.own w)) w (.ins C dy []) = G
  have n2 : upd H dy (.own w) w = none := by rw [upd_ne (Ne.symm nwy)]; exact nw
  have k0 : Md [] H G := e_G ▸ ((Md.new ndy).trans (Md.new n2))
  have hx : G w = some (.ins C dy []) := e_G ▸ upd_same
  clear e_G
  refine ⟨_, _, _, rfl, w, dy, P, r, rfl, hx, dP.md k0, rfl, A0, fun G1 k1 w1 => ⟨rfl, ?_⟩⟩
  have npw : p ≠ w := hpot.ne nw
  refine ⟨Nat.zero_le _, ?_⟩
  intro L nL
  generalize e_G2 : upd _ L _ = G2
  have kL : Md [] _ G2 := e_G2 ▸ Md.new nL
  have hL : G2 L = some _ := e_G2 ▸ upd_same
  clear e_G2
  refine ⟨_, _, _, rfl, ?_⟩
  have w2 := w1.md0 kL
  have M2 : Md [w] H G2 := (k0.up0.trans k1).trans kL.up0
  have nwL : w ≠ L := by
    obtain ⟨dx, vP, vG, vT, vB, hw, _⟩ := w1
    exact ne_of_none hw nL
  have pot1 : PotAt G1 p n := (hpot.md0 k0).md k1 (by simpa using npw)
  have npL : p ≠ L := pot1.ne nL
  have pot2 := pot1.md0 kL
  have nL0 : H L = none := by
    have := (k0.up0.trans k1 : Md [w] H G1).free nL (by simpa using Ne.symm nwL)
    exact this
  refine ⟨_, rfl, _, rfl, by omega, by omega, ?_⟩
  rw [Int.toNat_natCast]
  refine for_range (lo := 0) (n := m) (fun i σ H' => (∃ b v7 v8 v9 v10, σ = [some (.ref p), some vP0, some (.int r), some (.int (m : Nat)), some (.ref w), some (.ref L), some (.bl b), v7, v8, v9, v10] ∧
    Md [p, w, L] G2 H' ∧ PotAt H' p (n + 3 * i) ∧ ∃ es, WireAt K C H' w P r (run P r Wr.init es) ∧ (∃ vs, H' L = some (.lst vs) ∧ DA K H' vs (es.map Ev.d)) ∧ es.length ≤ i ∧ canAll P r Wr.init es ∧ (b = false → noLoss P r Wr.init es))) ?_ ?_ ?_
  · exact ⟨false, _, _, _, _, rfl, .refl, pot2, [], w2, ⟨[], hL, .nil⟩, Nat.le_refl _, trivial, fun _ => trivial⟩
  · rintro i σ H' hi ⟨b, v7, v8, v9, v10, rfl, m', pot', es, w', ⟨vs, hvs, dvs⟩, hlen, hcan, hloss⟩
    have O := ok_run (ok_init A0.lo) hcan
    have Z := O.sz A0
    -- now
    refine ⟨_, rfl, rfl, _, rfl, w, P, r, _, rfl, w', A0, Z, fun vN G3 k3 dN => ?_⟩
    obtain ⟨aN, xN, rfl, hN, hNa, hNl⟩ := evs_inv dN
    have hZn := len_evsNow Z
    -- plain
    refine ⟨_, rfl, _, rfl, ⟨_, hN⟩, lc_pureT hN (szl (m := 1000) (by omega)) (fun j x => if decide (V.int (evLen ((evsNow P r (run P r Wr.init es))[j]?.getD .say) : Nat) = V.int 1) = true then some x else none) ?_ ?_⟩
    · intro j x H2 R hx hm2 kk
      obtain ⟨e, he, de⟩ := evs_get hNa hx
      obtain ⟨ae, ye, rfl, hye, hle⟩ := ev_sq de
      refine ⟨rfl, ?_⟩
      refine ⟨_, rfl, _, _, rfl, .inr (hm2.sqt hye), rfl, _, rfl, ?_⟩
      have q := kk H2 .refl
      dsimp only at q
      rw [he, Option.getD_some, ← hle] at q
      by_cases hc : decide (V.int (ye.length : Nat) = V.int 1) = true
      · rw [if_pos hc] at q
        exact rd_true hc ⟨_, rfl, q⟩
      · rw [if_neg hc] at q
        exact rd_false (by simpa using hc) q
    intro D0 G4 nD k4 hD
    have hsub := fun y => fmI_mem (f := fun j x => if decide (V.int (evLen ((evsNow P r (run P r Wr.init es))[j]?.getD .say) : Nat) = V.int 1) = true then some x else none) (fun _ x y h => by
      split at h
      · injection h with h; exact h.symm
      · cases h) (n := 0) (xs := xN) (y := y)
    have hflen := fmI_len (fun j x => if decide (V.int (evLen ((evsNow P r (run P r Wr.init es))[j]?.getD .say) : Nat) = V.int 1) = true then some x else none) 0 xN
    generalize fmI (fun j x => if decide (V.int (evLen ((evsNow P r (run P r Wr.init es))[j]?.getD .say) : Nat) = V.int 1) = true then some x else none) 0 xN = xP at hD hsub hflen
    -- if now != ()
    refine ⟨_, rfl, sz (Nat.zero_le 1), ?_⟩
    intro p5 n5
    generalize e_G5 : upd _ p5 _ = G5
    have k5 : Md [] _ G5 := e_G5 ▸ Md.new n5
    have h5 : G5 p5 = some _ := e_G5 ▸ upd_same
    clear e_G5
    have k35 : Md [] H' G5 := (k3.trans k4).trans k5
    refine rd_ne ((dN.md k4).md k5) (.tup (SqT.of h5) .nil) (ok_evs _) (ok_evs []) fun bn hbn => ⟨_, rfl, rd_if hbn (fun hne => ?_) (fun he => ?_)⟩
    · have hne' : evsNow P r (run P r Wr.init es) ≠ [] := fun z => hne (by rw [z]; rfl)
      have hN0 : 0 < xN.length := by rw [hNl]; exact List.length_pos_iff.mpr hne'
      have potG5 := pot'.md0 k35
      have npD : p ≠ D0 := (pot'.md0 k3).ne nD
      have hD5 := k5.get0 hD
      have hN5 := (k4.trans k5).sqt hN
      have hNa5 := (hNa.md k4).md k5
      have dpl : ∃ pl : List Ev, DA K G5 xP (pl.map Ev.d) := da_of_mem fun v hv => by
        obtain ⟨e, _, de⟩ := mem_evs hNa5 (hsub v hv)
        exact ⟨e, de⟩
      obtain ⟨pl, dpl⟩ := dpl
      -- event
      refine via_asg (fun v G => ∃ e, D K G v (Ev.d e) ∧ can P r (run P r Wr.init es) e = true ∧ Md [p] G5 G ∧ PotAt G p (n + 3 * i + 2)) (fun Q' kq => ?_) ?_
      · have ofNow : ∀ (G : Hp) (c : Nat), Md [p] G5 G → PotAt G p (n + 3 * i + c) → c ≤ 1 → ∀ Q'' : VK, (∀ v G', (∃ e, D K G' v (Ev.d e) ∧ can P r (run P r Wr.init es) e = true ∧ Md [p] G5 G' ∧ PotAt G' p (n + 3 * i + 2)) → Q'' v G') → sp__law_of K C [V.ref p, V.ref aN] G Q'' E0 := by
          intro G c mG pG hc Q'' kq
          refine ⟨_, _, rfl, p, n + 3 * i + c, aN, xN, rfl, pG, by omega, rfl, .inr (mG.sqt hN5), hN0, by omega, fun x G' kx px hx => ?_⟩
          obtain ⟨e, he, de⟩ := mem_evs ((hNa5.md mG).md kx) hx
          exact kq x G' ⟨e, de, evsNow_can he, mG.trans kx, px.up (by omega)⟩
        refine ⟨_, rfl, Nat.zero_le _, ?_⟩
        intro p6 n6
        generalize e_G6 : upd _ p6 _ = G6
        have k6 : Md [] _ G6 := e_G6 ▸ Md.new n6
        have h6 : G6 p6 = some _ := e_G6 ▸ upd_same
        clear e_G6
        have hD6 := k6.get0 hD5
        refine rd_neL (SqL.of hD6) (dpl.md k6) (SqL.of h6) fun bp hbp => ⟨_, rfl, rd_if hbp (fun hp1 => ?_) (fun hp1 => ?_)⟩
        · refine ⟨_, rfl, _, _, rfl, p, n + 3 * i, 4, rfl, potG5.md0 k6, by omega, rfl, by decide, by decide, fun d G7 k7 pot7 d0 d1 => ?_⟩
          refine ⟨_, _, rfl, rfl, _, rfl, rd_ifd (fun hd => ?_) (fun hd => ?_)⟩
          · have hD7 := k7.get1 hD6 (Ne.symm npD)
            have hlpl := dpl.len
            rw [List.length_map] at hlpl
            have hpl0 : 0 < pl.length := List.length_pos_iff.mpr hp1
            refine ⟨_, rfl, _, rfl, _, _, rfl, p, n + 3 * i + 1, D0, xP, rfl, pot7, by omega, rfl, .inl ⟨SqL.of hD7, Ne.symm npD⟩, by omega, by omega, fun x G8 k8 pot8 hx => ?_⟩
            have M8 : Md [p] G5 G8 := (k6.up0.trans k7).trans k8
            obtain ⟨e, he, de⟩ := mem_evs (hNa5.md M8) (hsub x hx)
            exact kq x G8 ⟨e, de, evsNow_can he, M8, pot8⟩
          · exact ⟨_, rfl, _, rfl, ofNow G7 1 (k6.up0.trans k7) pot7 (by decide) _ kq⟩
        · exact ⟨_, rfl, _, rfl, ofNow G6 0 k6.up0 (potG5.md0 k6) (by decide) _ kq⟩
      · rintro v9' G9 ⟨e, de9, hce, m9, pot9⟩
        have M9 : Md [p, w, L] G2 G9 := (m'.trans k35.up0).trans (m9.up (by simp))
        have w9 := (w'.md0 k35).md1 m9 (Ne.symm npw)
        have hL9 := m9.get1 (k35.get0 hvs) (Ne.symm npL)
        have dL9 := (dvs.md k35).md m9
        -- is_lost
        dsimp only
        refine via_seq (fun v G => ∃ b' : Bool, v = .bl b' ∧ Md [] G9 G ∧ (b' = false → b = false ∧ (e = .hear → ((run P r Wr.init es).back.length : Int) ≠ r))) (fun Q' kq => ?_) ?_
        · refine ⟨_, rfl, _, rfl, ?_⟩
          cases b with
          | true => exact iteT (kq _ _ ⟨true, rfl, .refl, fun z => nomatch z⟩)
          | false =>
            refine iteF ?_
            refine ⟨_, rfl, sz (Nat.le_refl 1), ?_⟩
            intro p10 n10
            generalize e_G10 : upd _ p10 _ = G10
            have k10 : Md [] _ G10 := e_G10 ▸ Md.new n10
            have h10 : G10 p10 = some _ := e_G10 ▸ upd_same
            clear e_G10
            refine rd_eq (D.md k10 de9) (.tup (SqT.of h10) (.cons (.str _) .nil)) (ok_ev _) (ok_ev .hear) fun bh hbh => ⟨_, rfl, rd_if hbh (fun hh => ?_) (fun hh => ?_)⟩
            · have w10 := w9.md0 k10
              have w10' := w10
              obtain ⟨dxw, vP, vG, vT, vB, hw, _⟩ := w10'
              refine ⟨_, rfl, w, dxw, _, rfl, hw, _, rfl, w, P, r, _, rfl, w10, fun vA dA => ?_⟩
              obtain ⟨aA, rfl, hA⟩ := ints_inv dA
              refine ⟨_, _, rfl, .inr hA, _, rfl, rfl, ?_⟩
              refine kq _ _ ⟨_, rfl, k10, fun z => ⟨rfl, fun _ y => ?_⟩⟩
              rw [decide_eq_false_iff_not] at z
              rw [List.length_map] at z
              exact z (by rw [y])
            · have e0 : bh = false := by
                cases bh
                · rfl
                · exact absurd (hbh.mp rfl) hh
              subst e0
              exact kq _ _ ⟨false, rfl, k10, fun _ => ⟨rfl, fun z => absurd (by rw [z]; rfl) hh⟩⟩
        · rintro v6' G10 ⟨b', rfl, k10, hb'⟩
          have w10 := w9.md0 k10
          have w10' := w10
          obtain ⟨dxw, vP, vG, vT, vB, hw, _⟩ := w10'
          refine ⟨_, rfl, w, dxw, _, rfl, hw, lk_go_on, _, rfl, rfl, _, _, rfl, w, P, r, _, e, rfl, w10, A0, Z, D.md k10 de9, hce, fun G11 k11 w11 => ?_⟩
          have hL11 := k11.get1 (k10.get0 hL9) (Ne.symm nwL)
          have lvs := dvs.len
          rw [List.length_map] at lvs
          refine ⟨_, rfl, .inl ⟨rfl, _, SqL.of hL11⟩, _, rfl, _, _, _, rfl, rfl, hL11, szl (m := 1000) (by omega), ?_⟩
          generalize e_G12 : upd _ L _ = G12
          have k12 : Md [L] _ G12 := e_G12 ▸ Md.mut hL11 trivial
          have h12 : G12 L = some _ := e_G12 ▸ upd_same
          clear e_G12
          refine ⟨b', _, _, _, _, rfl, ?_, ?_, es ++ [e], ?_, ⟨_, h12, ?_⟩, by rw [List.length_append, List.length_singleton]; omega, canAll_append hcan ⟨hce, trivial⟩, fun z => noLoss_append (hloss (hb' z).1) fun y => ?_⟩
          · exact ((M9.trans k10.up0).trans (k11.up (by simp))).trans (k12.up (by simp))
          · exact ((((pot9.md0 k10).md k11 (by simpa using npw)).md k12 (by simpa using npL))).up (by omega)
          · rw [run_append]
            exact w11.md1 k12 nwL
          · rw [List.map_append]
            exact (((dL9.md k10).md k11).append (.cons (D.md k11 (D.md k10 de9)) .nil)).md k12
          · have h1 := (hb' z).2 y
            have h2 := O.back
            omega
    · exact ⟨b, _, _, _, _, rfl, m'.trans k35.up0, (pot'.md0 k35).up (by omega), es, w'.md0 k35, ⟨vs, k35.get0 hvs, dvs.md k35⟩, by omega, hcan, hloss⟩
  · rintro σ H' ⟨b, v7, v8, v9, v10, rfl, m', pot', es, w', ⟨vs, hvs, dvs⟩, hlen, hcan, hloss⟩
    refine ⟨_, rfl, _, rfl, _, _, rfl, .inl ⟨SqL.of hvs, ?_⟩⟩
    intro p13 n13
    generalize e_G13 : upd _ p13 _ = G13
    have k13 : Md [] _ G13 := e_G13 ▸ Md.new n13
    have h13 : G13 p13 = some _ := e_G13 ▸ upd_same
    clear e_G13
    refine ⟨_, rfl, sz (Nat.le_refl 3), ?_⟩
    intro p14 n14
    generalize e_G14 : upd _ p14 _ = G14
    have k14 : Md [] _ G14 := e_G14 ▸ Md.new n14
    have h14 : G14 p14 = some _ := e_G14 ▸ upd_same
    clear e_G14
    have kk := k13.trans k14
    have M14 : Md [p, w, L] H G14 := ((M2.up (by simp)).trans m').trans kk.up0
    have M14' : Md [w, L, p] H G14 := M14.up (by simp)
    exact k p14 w _ G14 es b nw ((M14'.drop nw).drop nL0) (pot'.md0 kk) (SqT.of h14) (w'.md0 kk) (D.md k14 (.tup (SqT.of h13) (dvs.md k13))) hlen hcan hloss
end Dh

namespace Dh
open PySem PySem.Spec PyProof.Rows L2

/-- for event in events: w.go_on(event) -/
theorem go_for {K : PySem.W.Frag} {C q aE : Addr} {P : List Int} {r : Int} {xs : List V} {es : List Ev} {s : Wr} {iw iv : Nat} {D : Ends} {σ : L2.St} {H : Hp} (hs : SqT K H aE xs) (hd : DA K H xs (es.map Ev.d)) (wa : WireAt K C H q P r s) (A0 : Fit P r) (O : Ok P r s) (hc : canAll P r s es)
    (hσ : ∀ v, (σ.set iv v)[iw]? = some (some (.ref q))) (hv : ∀ v, (σ.set iv v)[iv]? = some v) (h0 : ∃ v, σ = σ.set iv v) (k : ∀ v H', Md [q] H H' → WireAt K C H' q P r (run P r s es) → D.nx (σ.set iv v) H') :
    ∃ W : Nat → Nat → L2.St → Hp → Prop, (∃ m, W 0 m σ H) ∧ ∀ i m σ H, W i m σ H →
      ((Itt K aE).stop i H ∧ D.nx σ H) ∨ ((Itt K aE).go i H ∧ ∃ N : L2.St → Hp → Prop, (∀ σ' H', N σ' H' → ∃ m', m' < m ∧ W (i + 1) m' σ' H') ∧ ∀ x H', (Itt K aE).yld i H x H' → gName iv x σ H' fun σ2 H2 =>
        tDrop (tMeth C "go_on" (sp_Wire_go_on K C) [] E0 (tVar iw) (tCons (tVar iv) tNil)) { D with nx := N, ct := N, bk := D.nx } σ2 H2) := by
  have hl : xs.length = es.length := by rw [hd.len, List.length_map]
  obtain ⟨v0, e0⟩ := h0
  refine for_tup (K := K) (a := aE) (xs := xs) (fun i σ' H' => (∃ v, σ' = σ.set iv v) ∧ Md [q] H H' ∧ WireAt K C H' q P r (run P r s (es.take i))) ⟨⟨v0, e0⟩, .refl, wa⟩ (fun i σ' H' _ z => z.2.1.sqt hs) ?_ ?_
  · rintro i x σ' H' hi ⟨⟨v, rfl⟩, m', w'⟩
    obtain ⟨e, he, de⟩ := evs_get hd hi
    have hcan := canAll_get hc he
    have O' := ok_run O (canAll_take i hc)
    have w'' := w'
    obtain ⟨dx, vP, vG, vT, vB, hp, _⟩ := w''
    have es : (σ.set iv v).set iv (some x) = σ.set iv (some x) := by rw [List.set_set]
    show tDrop _ _ ((σ.set iv v).set iv (some x)) H'
    rw [es]
    refine ⟨_, hσ _, q, dx, _, rfl, hp, lk_go_on, _, hv _, _, _, rfl, q, P, r, _, e, rfl, w', A0, O'.sz A0, de.md m', hcan, fun G4 k4 w4 => ?_⟩
    refine ⟨⟨_, rfl⟩, m'.trans k4, ?_⟩
    rw [run_take_succ he]
    exact w4
  · rintro σ' H' ⟨⟨v, rfl⟩, m', w'⟩
    refine k v H' m' ?_
    rw [hl, List.take_length] at w'
    exact w'
theorem fm_id (xs : List V) : fmI (fun _ x => some x) 0 xs = xs := by rw [fmI_filter (g := some) (fun _ _ => rfl)]; simp
/-- two of a range -/
theorem two_of {ys rest : List V} {n : Nat} (h : (ys ++ rest).Perm (rgV 0 (n : Int))) (hl : ys.length = 2) : ∃ a b : Nat, ys = [a, b].map (fun i : Nat => V.int i) ∧ a < n ∧ b < n ∧ a ≠ b := by
  have hr : rgV 0 (n : Int) = (List.range n).map fun i => V.int (i : Nat) := by
    unfold rgV
    rw [Int.sub_zero, Int.toNat_natCast]
    exact List.map_congr_left fun i _ => by rw [Int.zero_add]
  have nd : (rgV 0 (n : Int)).Nodup := by
    rw [hr, List.nodup_iff_pairwise_ne, List.pairwise_map]
    exact (List.nodup_range (n := n)).imp fun hab e => hab (by injection e with e; omega)
  have nd2 : (ys ++ rest).Nodup := h.nodup_iff.mpr nd
  match ys, hl with
  | [x, y], _ =>
    have mx : ∀ z ∈ [x, y], ∃ i : Nat, z = V.int i ∧ i < n := by
      intro z hz
      have m := h.mem_iff.mp (List.mem_append_left rest hz)
      rw [hr] at m
      obtain ⟨i, hi, e⟩ := List.mem_map.mp m
      exact ⟨i, e.symm, List.mem_range.mp hi⟩
    obtain ⟨a, rfl, ha⟩ := mx x (by simp)
    obtain ⟨b, rfl, hb⟩ := mx y (by simp)
    refine ⟨a, b, rfl, ha, hb, ?_⟩
    intro e
    subst e
    have := (List.nodup_cons.mp nd2).1
    exact this (by simp)
/-- two sorted -/
theorem sorted_two {a b : Nat} {ns : List Int} (h : ns.Perm [(a : Int), (b : Int)]) (hs : ns.Pairwise (· ≤ ·)) (hab : a ≠ b) : ∃ i j : Nat, ns = [(i : Int), (j : Int)] ∧ i < j ∧ (i = a ∨ i = b) ∧ (j = a ∨ j = b) := by
  have hl := h.length_eq
  match ns, hl with
  | [x, y], _ =>
    have hx := h.mem_iff.mp (show x ∈ [x, y] by simp)
    have hy := h.mem_iff.mp (show y ∈ [x, y] by simp)
    have hle : x ≤ y := by simpa using hs
    simp only [List.mem_cons, List.not_mem_nil, or_false] at hx hy
    have hne : x ≠ y := by
      intro e
      subst e
      have nd : ([(a : Int), (b : Int)]).Nodup := by simp; omega
      have := h.nodup_iff.mpr nd
      simp at this
    rcases hx with hx | hx <;> rcases hy with hy | hy
    · omega
    · exact ⟨a, b, by rw [hx, hy], by omega, .inl rfl, .inr rfl⟩
    · exact ⟨b, a, by rw [hx, hy], by omega, .inr rfl, .inl rfl⟩
    · omega
theorem dEv (K : PySem.W.Frag) {G : Hp} {p : Addr} (l t : Bool) (i : Nat) (h : G p = some (.tup [.str (if l then "lose" else "double"), .str (chan t), .int i])) : D K G (.ref p) (Ev.d (if l then .lose t i else .dbl t i)) := by
  cases l <;> exact .tup (SqT.of h) (.cons (.str _) (.cons (.str _) (.cons (.int _) .nil)))


theorem via_ts {u v : TS} {D : Ends} {σ : L2.St} {H : Hp} (Pst : L2.St → Hp → Prop) (h1 : ∀ N : L2.St → Hp → Prop, (∀ σ' H', Pst σ' H' → N σ' H') → u { D with nx := N } σ H) (h2 : ∀ σ' H', Pst σ' H' → v D σ' H') : tSeq u v D σ H := h1 _ h2

abbrev st__law_are_changes_right : Stmt := topS 50
theorem sc__law_are_changes_right : FnScope ["pot", "wire", "room", "before", "channel", "row", "at", "place", "other", "one", "two", "spot", "first", "second", "event"] ["pot", "wire", "room"] (defScope st__law_are_changes_right) := ⟨rfl, rfl, rfl, by decide +kernel, rfl, by decide +kernel, by decide +kernel⟩
theorem ok__law_are_changes_right {P : Program} {w : World} {K : PySem.W.Frag} {mg : Str → Option Value} {base : Heap} {C aS aH aD f : Addr} {fd : FuncData} (F : Fun K "_law_are_changes_right" "_law_are_changes_right" st__law_are_changes_right f fd) (T : Txt K mg C aS aH aD)
    (f__law_tells : Cl P w K mg base 3 "_law_tells" ["wire"] (sp__law_tells K C))
    (p_letters : Prp P w K mg base 1 C "letters" (sp_Wire_letters K C))
    (p_answers : Prp P w K mg base 1 C "answers" (sp_Wire_answers K C))
    (f__law_take : Cl P w K mg base 1 "_law_take" ["pot", "upto"] (sp__law_take K C))
    (m_copy : Mt P w K mg base 6 C "copy" ["self"] (sp_Wire_copy K C))
    (m_go_on : Mt P w K mg base 5 C "go_on" ["self", "event"] (sp_Wire_go_on K C))
    (f__law_some : Cl P w K mg base 2 "_law_some" ["pot", "some", "many"] (sp__law_some K C)) : FnOk P w K mg base CX0 7 f fd ["pot", "wire", "room"] (sp__law_are_changes_right K C) := by
  refine F.ok sc__law_are_changes_right (fun vs H Q E h => len3 h) (fun cdv A outer s H vs Q E hr h => ?_)
  refine ⟨_, (pss_cons (ps_set (i := 3) sc__law_are_changes_right.nd rfl (by first | exact Or.inl rfl | exact Or.inr rfl) (pe_cl f__law_tells hr (by decide) (by rfl) (pa_cons (pv 1) pa_nil)))
    (pss_cons (ps_for PassesOwn.never rfl (pi_tup (pe_tup (pa_cons (pe_tup (pa_cons pe_str (pa_cons (pe_pr p_letters hr (by decide) (pv 1)) pa_nil))) (pa_cons (pe_tup (pa_cons pe_str (pa_cons (pe_pr p_answers hr (by decide) (pv 1)) pa_nil))) pa_nil)))) (pg_tup rfl (pgs_cons (pg_name (i := 4) sc__law_are_changes_right.nd rfl (by first | exact Or.inl rfl | exact Or.inr rfl)) (pgs_cons (pg_name (i := 5) sc__law_are_changes_right.nd rfl (by first | exact Or.inl rfl | exact Or.inr rfl)) pgs_nil)))
      (pss_cons (ps_if (PW.pt (pw_and (pt_cmpR (op_neD hr.units) (pv 5) (pe_tup pa_nil) (nomark _)) (pw_and1 (pt_cmpR op_lt (pe_callB call_len_seq (by rfl) T.b_len (by decide +kernel) (pa_cons (pv 5) pa_nil)) (pv 2) (nomark _)))))
      (pss_cons (ps_set (i := 6) sc__law_are_changes_right.nd rfl (by first | exact Or.inl rfl | exact Or.inr rfl) (pe_callTy call_int1 (by rfl) T.b_int (by decide +kernel) (pa_cons (pe_cl f__law_take hr (by decide) (by rfl) (pa_cons (pv 0) (pa_cons (pe_callB call_len_seq (by rfl) T.b_len (by decide +kernel) (pa_cons (pv 5) pa_nil)) pa_nil))) pa_nil)))
    (pss_one (ps_for PassesOwn.never rfl (pi_tup (pe_tup (pa_cons (pv 6) (pa_cons (pe_op op_add (pv 6) pe_int) pa_nil)))) (pg_name (i := 7) sc__law_are_changes_right.nd rfl (by first | exact Or.inl rfl | exact Or.inr rfl))
      (pss_cons (ps_set (i := 8) sc__law_are_changes_right.nd rfl (by first | exact Or.inl rfl | exact Or.inr rfl) (pe_mtd0 m_copy hr (by decide) (pv 1)))
    (pss_cons (ps_expr (pe_mtd m_go_on hr (by decide) (pv 8) (pa_cons (pe_tup (pa_cons pe_str (pa_cons (pv 4) (pa_cons (pv 6) pa_nil)))) pa_nil)))
    (pss_cons (ps_if (pt_cmpR (op_eqD hr.units) (pe_cl f__law_tells hr (by decide) (by rfl) (pa_cons (pv 8) pa_nil)) (pv 3) (nomark _))
      (pss_one (ps_ret pe_bl))
      pss_nil)
    (pss_cons (ps_expr (pe_mtd m_go_on hr (by decide) (pv 8) (pa_cons (pe_tup (pa_cons pe_str (pa_cons (pv 4) (pa_cons (pe_callTy call_int1 (by rfl) T.b_int (by decide +kernel) (pa_cons (pv 7) pa_nil)) pa_nil)))) pa_nil)))
    (pss_one (ps_if (pt_cmpR (op_neD hr.units) (pe_cl f__law_tells hr (by decide) (by rfl) (pa_cons (pv 8) pa_nil)) (pv 3) (nomark _))
      (pss_one (ps_ret pe_bl))
      pss_nil)))))))))
      pss_nil)
    (pss_one (ps_if (pt_cmpR op_gt (pe_callB call_len_seq (by rfl) T.b_len (by decide +kernel) (pa_cons (pv 5) pa_nil)) pe_int (nomark _))
      (pss_cons (ps_asg (pe_callB cr_sorted (by rfl) T.b_sorted (by decide +kernel) (pa_cons (pe_lc (own := [("spot", 11)]) (by rfl) sc__law_are_changes_right.nd (pi_list (pe_cl f__law_some hr (by decide) (by rfl) (pa_cons (pv 0) (pa_cons (pe_listRg rfl (by rfl) T.b_list (prg_1 (by rfl) T.b_range (pe_callB call_len_seq (by rfl) T.b_len (by decide +kernel) (pa_cons (pv 5) pa_nil)))) (pa_cons pe_int pa_nil))))) (blkOk_by (N := ["pot", "wire", "room", "before", "channel", "row", "at", "place", "other", "one", "two", "spot", "first", "second", "event"]) (sc := defScope st__law_are_changes_right) (own := [("spot", 11)]) (by decide +kernel)) (fun _ _ _ _ _ => (pg_name (i := 11) sc__law_are_changes_right.nd rfl (by first | exact Or.inl rfl | exact Or.inr rfl))) (fun _ _ _ _ _ => pts_nil) (fun _ _ _ _ _ => (pe_callTy call_int1 (by rfl) T.b_int (by decide +kernel) (pa_cons (pv 11) pa_nil)))) pa_nil)) (pg_lst rfl (pgs_cons (pg_name (i := 9) sc__law_are_changes_right.nd rfl (by first | exact Or.inl rfl | exact Or.inr rfl)) (pgs_cons (pg_name (i := 10) sc__law_are_changes_right.nd rfl (by first | exact Or.inl rfl | exact Or.inr rfl)) pgs_nil))))
    (pss_cons (ps_par (i := 12) (j := 13) rfl sc__law_are_changes_right.nd rfl rfl (by decide) rfl rfl (pa_cons (pe_mtd0 m_copy hr (by decide) (pv 1)) (pa_cons (pe_mtd0 m_copy hr (by decide) (pv 1)) pa_nil)) (by rfl))
    (pss_cons (ps_for PassesOwn.never rfl (pi_tup (pe_tup (pa_cons (pe_tup (pa_cons pe_str (pa_cons (pv 4) (pa_cons (pv 10) pa_nil)))) (pa_cons (pe_tup (pa_cons pe_str (pa_cons (pv 4) (pa_cons (pv 9) pa_nil)))) pa_nil)))) (pg_name (i := 14) sc__law_are_changes_right.nd rfl (by first | exact Or.inl rfl | exact Or.inr rfl))
      (pss_one (ps_expr (pe_mtd m_go_on hr (by decide) (pv 12) (pa_cons (pv 14) pa_nil)))))
    (pss_cons (ps_for PassesOwn.never rfl (pi_tup (pe_tup (pa_cons (pe_tup (pa_cons pe_str (pa_cons (pv 4) (pa_cons (pv 9) pa_nil)))) (pa_cons (pe_tup (pa_cons pe_str (pa_cons (pv 4) (pa_cons (pe_callTy call_int1 (by rfl) T.b_int (by decide +kernel) (pa_cons (pe_op op_sub (pv 10) pe_int) pa_nil)) pa_nil)))) pa_nil)))) (pg_name (i := 14) sc__law_are_changes_right.nd rfl (by first | exact Or.inl rfl | exact Or.inr rfl))
      (pss_one (ps_expr (pe_mtd m_go_on hr (by decide) (pv 13) (pa_cons (pv 14) pa_nil)))))
    (pss_one (ps_if (pt_cmpR (op_neD hr.units) (pe_cl f__law_tells hr (by decide) (by rfl) (pa_cons (pv 12) pa_nil)) (pe_cl f__law_tells hr (by decide) (by rfl) (pa_cons (pv 13) pa_nil)) (nomark _))
      (pss_one (ps_ret pe_bl))
      pss_nil))))))
      pss_nil))))
    (pss_one (ps_ret (pe_cmpR (op_eqD hr.units) (pe_cl f__law_tells hr (by decide) (by rfl) (pa_cons (pv 1) pa_nil)) (pv 3) (nomark _)))))), ?_⟩
  obtain ⟨_, _, _, rfl, p, n, w, P, r, s0, rfl, hpot, hn, rfl, wa, A0, O, rfl, k⟩ := h
  have Z := O.sz A0
  have wa' := wa
  obtain ⟨dx, vP, vG, vT, vB, hw, dP, dG, dT, dB⟩ := wa'
  have npw : p ≠ w := by
    obtain ⟨o, m, c, e, _⟩ := hpot
    exact ne_of e hw (by intro z; cases z)
  refine ⟨_, rfl, _, rfl, w, P, r, s0, rfl, wa, fun vB0 G1 k1 dB0 => ?_⟩
  have hw1 := k1.get0 hw
  have wa1 := wa.md0 k1
  refine ⟨_, rfl, w, dx, _, rfl, hw1, _, rfl, w, P, r, s0, rfl, wa1, fun vL dL => ⟨sz (Nat.le_refl 2), ?_⟩⟩
  intro p1 n2
  generalize e_G2 : upd _ p1 _ = G2
  have k2 : Md [] _ G2 := e_G2 ▸ Md.new n2
  have h2 : G2 p1 = some _ := e_G2 ▸ upd_same
  clear e_G2
  refine ⟨_, rfl, w, dx, _, rfl, k2.get0 hw1, _, rfl, w, P, r, s0, rfl, wa1.md0 k2, fun vA dA => ⟨sz (Nat.le_refl 2), ?_⟩⟩
  intro p2 n3
  generalize e_G3 : upd _ p2 _ = G3
  have k3 : Md [] _ G3 := e_G3 ▸ Md.new n3
  have h3 : G3 p2 = some _ := e_G3 ▸ upd_same
  clear e_G3
  refine ⟨sz (Nat.le_refl 2), ?_⟩
  intro p3 n4
  generalize e_G4 : upd _ p3 _ = G4
  have k4 : Md [] _ G4 := e_G4 ▸ Md.new n4
  have h4 : G4 p3 = some _ := e_G4 ▸ upd_same
  clear e_G4
  refine ⟨_, rfl, ⟨_, SqT.of h4⟩, ?_⟩
  have M4 : Md [] H G4 := ((k1.trans k2).trans k3).trans k4
  have wa4 := wa.md0 M4
  have pot4 := hpot.md0 M4
  have dB4 := dB0.md ((k2.trans k3).trans k4)
  have dL4 := dL.md ((k2.trans k3).trans k4)
  have dA4 := dA.md (k3.trans k4)
  have hp1 := (k3.trans k4).get0 h2
  have hp2 := k4.get0 h3
  have NE : ∀ {H' : Hp} {q : Addr}, PotAt H' p n → H' q = none → p ≠ q := fun h z => h.ne z
  refine for_tup (K := K) (a := p3) (xs := [.ref p1, .ref p2]) (fun j σ H' => (∃ v4 v5 v6 v7 v8 v9 v10 v11 v12 v13 v14, σ = [some (.ref p), some (.ref w), some (.int r), some vB0, v4, v5, v6, v7, v8, v9, v10, v11, v12, v13, v14]) ∧ Md [p] G4 H' ∧ PotAt H' p (n + 1100 * j)) ⟨⟨_, _, _, _, _, _, _, _, _, _, _, rfl⟩, .refl, pot4⟩ (fun i σ' H' _ z => z.2.1.sqt (SqT.of h4)) ?_ ?_
  · rintro j x σ' H' hj ⟨⟨v4, v5, v6, v7, v8, v9, v10, v11, v12, v13, v14, rfl⟩, m', pot'⟩
    have hjl : j ≤ 1 := by
      have := List.getElem?_eq_some_iff.mp hj
      obtain ⟨h, _⟩ := this
      simp at h; omega
    have hx : ∃ (t : Bool) (ap : Addr) (vR : V) (ds : List PyData), x = .ref ap ∧ SqT K H' ap [.str (chan t), vR] ∧ D K H' vR (.tuple ds) ∧ okD (.tuple ds) ∧ ds.length = s0.len t := by
      match j, hj with
      | 0, hj =>
        have e : x = .ref p1 := by simpa using hj.symm
        exact ⟨true, p1, vL, _, e, m'.sqt (SqT.of hp1), dL4.md m', ok_letters s0.there, List.length_map _⟩
      | 1, hj =>
        have e : x = .ref p2 := by simpa using hj.symm
        exact ⟨false, p2, vA, _, e, m'.sqt (SqT.of hp2), dA4.md m', ok_ints s0.back, List.length_map _⟩
    clear hj
    obtain ⟨t, ap, vR, ds, rfl, hap, dR, okR, hds⟩ := hx
    obtain ⟨aR, xR, rfl, hR, hRa⟩ := dR.tup_inv
    have lR : xR.length = s0.len t := by rw [hRa.len, hds]
    have z20 : xR.length ≤ 20 := by
      rw [lR]
      have h1 := Z.there
      have h2 := Z.back
      have h3 := Z.hi
      cases t
      · show s0.back.length ≤ 20; omega
      · show s0.there.length ≤ 20; omega
    have wa' := wa4.md1 m' npw.symm
    have dB' := dB4.md m'
    refine ⟨ap, _, rfl, hap, rfl, _, _, rfl, _, _, rfl, rfl, ?_⟩
    refine via_ts (fun σ' H'' => (∃ v6 v7 v8 v9 v10 v11 v12 v13 v14, σ' = [some (.ref p), some (.ref w), some (.int r), some vB0, some (.str (chan t)), some (.ref aR), v6, v7, v8, v9, v10, v11, v12, v13, v14]) ∧ Md [p] H' H'' ∧ PotAt H'' p (n + 1100 * j + 1)) (fun N hN => ?_) ?_
    · -- doubled and lost
      refine ⟨_, rfl, sz (Nat.zero_le 1), ?_⟩
      intro p4 n5
      generalize e_G5 : upd _ p4 _ = G5
      have k5 : Md [] _ G5 := e_G5 ▸ Md.new n5
      have h5 : G5 p4 = some _ := e_G5 ▸ upd_same
      clear e_G5
      have hno : ∀ G, Md [] H' G → N [some (.ref p), some (.ref w), some (.int r), some vB0, some (.str (chan t)), some (.ref aR), v6, v7, v8, v9, v10, v11, v12, v13, v14] G := fun G k => hN _ _ ⟨⟨_, _, _, _, _, _, _, _, _, rfl⟩, k.up0, (pot'.md0 k).up (by omega)⟩
      refine rd_ne (dR.md k5) (.tup (SqT.of h5) .nil) okR (ok_ints []) fun b hb => ⟨_, rfl, rd_if hb (fun hne => ?_) (fun _ => hno _ k5)⟩
      have hpos : 0 < xR.length := by
        rw [hRa.len]
        exact List.length_pos_iff.mpr fun z => hne (by rw [z])
      refine ⟨_, rfl, _, _, rfl, .inr (k5.sqt hR), _, rfl, _, _, rfl, rfl, _, rfl, rd_ifd (fun hlt => ?_) (fun _ => hno _ k5)⟩
      refine ⟨_, rfl, _, rfl, _, _, rfl, .inr (k5.sqt hR), _, _, rfl, p, n + 1100 * j, (xR.length : Nat), rfl, pot'.md0 k5, by omega, rfl, by omega, by omega, fun d G6 k6 pot6 d0 d1 => .inl ⟨_, rfl, ?_⟩⟩
      obtain ⟨at_, rfl⟩ : ∃ at_ : Nat, d = at_ := ⟨d.toNat, by omega⟩
      have hat : at_ < s0.len t := by omega
      refine ⟨_, rfl, _, rfl, _, _, rfl, rfl, sz (Nat.le_refl 2), ?_⟩
      intro p7 n7
      generalize e_G7 : upd _ p7 _ = G7
      have k7 : Md [] _ G7 := e_G7 ▸ Md.new n7
      have h7 : G7 p7 = some _ := e_G7 ▸ upd_same
      clear e_G7
      refine ⟨_, rfl, ⟨_, SqT.of h7⟩, ?_⟩
      have M7 : Md [p] H' G7 := (k5.up0.trans k6).trans k7.up0
      have pot7 := pot6.md0 k7
      refine for_tup (K := K) (a := p7) (xs := [.int at_, .int (at_ + 1)]) (fun i σ' H'' => (∃ v7 v8 v9 v10 v11 v12 v13 v14, σ' = [some (.ref p), some (.ref w), some (.int r), some vB0, some (.str (chan t)), some (.ref aR), some (.int at_), v7, v8, v9, v10, v11, v12, v13, v14]) ∧ Md [p] G7 H'' ∧ PotAt H'' p (n + 1100 * j + 1)) ⟨⟨_, _, _, _, _, _, _, _, rfl⟩, .refl, pot7⟩ (fun i σ' H'' _ z => z.2.1.sqt (SqT.of h7)) ?_ ?_
      · rintro i x σ' H2 hi ⟨⟨v7, v8, v9, v10, v11, v12, v13, v14, rfl⟩, m2, pot2⟩
        have hx : ∃ pl : Nat, x = .int pl ∧ (pl = at_ ∨ pl = at_ + 1) := by
          match i, hi with
          | 0, hi => exact ⟨at_, by simpa using hi.symm, .inl rfl⟩
          | 1, hi => exact ⟨at_ + 1, by simpa using hi.symm, .inr rfl⟩
          | i + 2, hi => simp at hi
        clear hi
        obtain ⟨pl, rfl, hpl⟩ := hx
        have M2 : Md [p] H' H2 := M7.trans m2
        have w2 := wa'.md1 M2 npw.symm
        have w2' := w2
        obtain ⟨dx2, vP2, vG2, vT2, vB2, hw2, _⟩ := w2'
        refine ⟨_, rfl, w, dx2, _, rfl, hw2, lk_copy, _, rfl, w, P, r, s0, rfl, w2, A0, fun q G8 nq k8 w8 => ?_⟩
        have w8' := w8
        obtain ⟨dx8, vP8, vG8, vT8, vB8, hw8, _⟩ := w8'
        have npq : p ≠ q := pot2.ne nq
        refine ⟨_, rfl, q, dx8, _, rfl, hw8, lk_go_on, _, rfl, _, rfl, sz (Nat.le_refl 3), ?_⟩
        intro p9 n9
        generalize e_G9 : upd _ p9 _ = G9
        have k9 : Md [] _ G9 := e_G9 ▸ Md.new n9
        have h9 : G9 p9 = some _ := e_G9 ▸ upd_same
        clear e_G9
        have hcan : can P r s0 (.dbl t at_) = true := by
          have : (s0.len t : Int) < r := by omega
          simp only [can, Bool.and_eq_true, decide_eq_true_eq]
          exact ⟨hat, this⟩
        refine ⟨_, _, rfl, q, P, r, s0, .dbl t at_, rfl, w8.md0 k9, A0, Z, dEv K false t at_ h9, hcan, fun G10 k10 w10 => ?_⟩
        have Od := ok_step O hcan
        have Zd := Od.sz A0
        refine ⟨_, rfl, _, rfl, q, P, r, _, rfl, w10, fun vT11 G11 k11 d11 => ?_⟩
        have M11 : Md [q] H2 G11 := ((k8.trans k9).up0.trans k10).trans k11.up0
        have M11' : Md [] H2 G11 := M11.drop nq
        refine ⟨_, rfl, ?_⟩
        refine rd_eq d11 ((dB'.md M2).md M11') (ok_tell _) (ok_tell _) fun b hb => ⟨_, rfl, rd_if hb (fun e => ?_) (fun _ => ?_)⟩
        · exfalso
          have h1 := tell_rows e t
          rw [len_dbl hat] at h1
          omega
        have w11 := w10.md0 k11
        have w11' := w11
        obtain ⟨dx11, vP11, vG11, vT11, vB11, hw11, _⟩ := w11'
        refine ⟨_, rfl, q, dx11, _, rfl, hw11, lk_go_on, _, rfl, _, rfl, .inl ⟨_, rfl, sz (Nat.le_refl 3), ?_⟩⟩
        intro p12 n12
        generalize e_G12 : upd _ p12 _ = G12
        have k12 : Md [] _ G12 := e_G12 ▸ Md.new n12
        have h12 : G12 p12 = some _ := e_G12 ▸ upd_same
        clear e_G12
        have hcl : can P r (stp P r s0 (.dbl t at_)) (.lose t pl) = true := by
          simp only [can, decide_eq_true_eq]
          rw [len_dbl hat]
          omega
        refine ⟨_, _, rfl, q, P, r, _, .lose t pl, rfl, w11.md0 k12, A0, Zd, dEv K true t pl h12, hcl, fun G13 k13 w13 => ?_⟩
        rw [stp_dbl_lose hat hpl] at w13
        refine ⟨_, rfl, _, rfl, q, P, r, _, rfl, w13, fun vT14 G14 k14 d14 => ?_⟩
        have M14 : Md [q] H2 G14 := ((M11.trans k12.up0).trans k13).trans k14.up0
        have M14' : Md [] H2 G14 := M14.drop nq
        refine ⟨_, rfl, ?_⟩
        refine rd_ne d14 ((dB'.md M2).md M14') (ok_tell _) (ok_tell _) fun b hb => ⟨_, rfl, rd_if hb (fun e => absurd rfl e) (fun _ => ?_)⟩
        exact ⟨⟨_, _, _, _, _, _, _, _, rfl⟩, m2.trans M14'.up0, pot2.md0 M14'⟩
      · rintro σ' H2 ⟨⟨v7, v8, v9, v10, v11, v12, v13, v14, rfl⟩, m2, pot2⟩
        exact hN _ _ ⟨⟨_, _, _, _, _, _, _, _, _, rfl⟩, M7.trans m2, pot2⟩
    · rintro σ' H5 ⟨⟨v6, v7, v8, v9, v10, v11, v12, v13, v14, rfl⟩, m5, pot5⟩
      have M5 : Md [p] G4 H5 := m'.trans m5
      have hno : ∀ G c, Md [p] H5 G → PotAt G p (n + 1100 * j + c) → c ≤ 1100 → ∃ v4 v5 v6 v7 v8 v9 v10 v11 v12 v13 v14, True := fun _ _ _ _ _ => ⟨0, 0, 0, 0, 0, 0, 0, 0, 0, 0, 0, trivial⟩
      clear hno
      have w5 := wa'.md1 m5 npw.symm
      have hR5 := m5.sqt hR
      refine ⟨_, rfl, _, _, rfl, .inr hR5, _, _, rfl, rfl, _, rfl, rd_ifd (fun hlt => ?_) (fun _ => ?_)⟩
      · refine ⟨_, rfl, _, rfl, _, _, rfl, .inr hR5, _, rfl, RgOk.of_le (by decide) (by omega) (by decide) (by omega), ?_⟩
        intro pA n6
        generalize e_G6 : upd _ pA _ = G6
        have k6 : Md [] _ G6 := e_G6 ▸ Md.new n6
        have h6 : G6 pA = some _ := e_G6 ▸ upd_same
        clear e_G6
        refine ⟨_, _, _, rfl, p, n + 1100 * j + 1, pA, _, 2, rfl, pot5.md0 k6, by omega, rfl, SqL.of h6, (pot5.ne n6).symm, by rw [rgV_length]; omega, rfl, fun q7 G7 ys rest nq7 k7 pot7 h7 perm hlen => ?_⟩
        rw [rgV_length, show min 2 (((xR.length : Nat) : Int) - 0).toNat = 2 by omega] at hlen
        obtain ⟨a, b, rfl, ha, hb, hab⟩ := two_of perm hlen
        have M7 : Md [p] H5 G7 := k6.up0.trans k7
        refine ⟨_, rfl, ⟨_, SqL.of h7⟩, lc_pureL (SqL.of h7) (szl (m := 2) (Nat.le_refl 2)) (fun _ x => some x) ?_ ?_⟩
        · intro i x H2 R hx hm kk
          have hx' : ∃ z : Int, x = .int z := by
            match i, hx with
            | 0, hx => exact ⟨_, by simpa using hx.symm⟩
            | 1, hx => exact ⟨_, by simpa using hx.symm⟩
            | i + 2, hx => simp at hx
          obtain ⟨z, rfl⟩ := hx'
          exact ⟨rfl, rd_elt ⟨_, rfl, .inl ⟨_, rfl, kk _ .refl⟩⟩⟩
        intro DL G8 nD k8 hD
        rw [fm_id] at hD
        refine ⟨DL, [(a : Int), (b : Int)], rfl, SqL.of hD, by simp, ?_⟩
        intro ns q9 hperm hsort nq9
        generalize e_G9 : upd _ q9 _ = G9
        have k9 : Md [] _ G9 := e_G9 ▸ Md.new nq9
        have h9 : G9 q9 = some _ := e_G9 ▸ upd_same
        clear e_G9
        obtain ⟨one, two, rfl, h12, ho, ht⟩ := sorted_two hperm hsort hab
        have hone : one < s0.len t := by rcases ho with rfl | rfl <;> omega
        have htwo : two < s0.len t := by rcases ht with rfl | rfl <;> omega
        clear ho ht ha hb hab hperm hsort perm hlen
        refine ⟨q9, _, rfl, SqL.of h9, rfl, _, _, rfl, _, _, rfl, rfl, ?_⟩
        have M9 : Md [p] H5 G9 := M7.trans (k8.trans k9).up0
        have w9 := w5.md1 M9 npw.symm
        have w9' := w9
        obtain ⟨dx9, vP9, vG9, vT9, vB9, hw9, _⟩ := w9'
        refine ⟨_, rfl, w, dx9, _, rfl, hw9, lk_copy, _, rfl, w, P, r, s0, rfl, w9, A0, fun q G10 nq k10 w10 => ?_⟩
        refine ⟨_, rfl, w, dx9, _, rfl, k10.get0 hw9, lk_copy, _, rfl, w, P, r, s0, rfl, w9.md0 k10, A0, fun q' G11 nq' k11 w11 => ?_⟩
        refine ⟨_, _, rfl, ?_⟩
        refine ⟨_, rfl, _, rfl, sz (Nat.le_refl 3), ?_⟩
        intro e1 n12
        generalize e_G12 : upd _ e1 _ = G12
        have k12 : Md [] _ G12 := e_G12 ▸ Md.new n12
        have h12' : G12 e1 = some _ := e_G12 ▸ upd_same
        clear e_G12
        refine ⟨_, rfl, _, rfl, sz (Nat.le_refl 3), ?_⟩
        intro e2 n13
        generalize e_G13 : upd _ e2 _ = G13
        have k13 : Md [] _ G13 := e_G13 ▸ Md.new n13
        have h13 : G13 e2 = some _ := e_G13 ▸ upd_same
        clear e_G13
        refine ⟨sz (Nat.le_refl 2), ?_⟩
        intro e3 n14
        generalize e_G14 : upd _ e3 _ = G14
        have k14 : Md [] _ G14 := e_G14 ▸ Md.new n14
        have h14 : G14 e3 = some _ := e_G14 ▸ upd_same
        clear e_G14
        refine ⟨_, rfl, ⟨_, SqT.of h14⟩, ?_⟩
        have M14 : Md [] G9 G14 := ((((k10.trans k11).trans k12).trans k13).trans k14)
        have wq := (((w10.md0 k11).md0 k12).md0 k13).md0 k14
        have wq' := ((w11.md0 k12).md0 k13).md0 k14
        have nqq : q' ≠ q := by
          obtain ⟨_, _, _, _, _, z, _⟩ := w10
          exact fun e => by rw [e, z] at nq'; cases nq'
        have len1 : canAll P r s0 [.lose t two, .lose t one] := by
          have := len_lose (P := P) (r := r) htwo
          refine ⟨by simp only [can, decide_eq_true_eq]; exact htwo, ?_, trivial⟩
          simp only [can, decide_eq_true_eq]
          omega
        have len2 : canAll P r s0 [.lose t one, .lose t (two - 1)] := by
          have := len_lose (P := P) (r := r) hone
          refine ⟨by simp only [can, decide_eq_true_eq]; exact hone, ?_, trivial⟩
          simp only [can, decide_eq_true_eq]
          omega
        refine go_for (iw := 12) (iv := 14) (es := [.lose t two, .lose t one]) (SqT.of h14) (.cons (D.md (k13.trans k14) (dEv K true t two h12')) (.cons (D.md k14 (dEv K true t one h13)) .nil)) wq A0 O len1 (fun _ => rfl) (fun _ => rfl) ⟨_, rfl⟩ fun vx G15 k15 w15 => ?_
        have wr' := wq'.md1 k15 nqq
        refine ⟨_, rfl, _, rfl, sz (Nat.le_refl 3), ?_⟩
        intro f1 n16
        generalize e_G16 : upd _ f1 _ = G16
        have k16 : Md [] _ G16 := e_G16 ▸ Md.new n16
        have h16 : G16 f1 = some _ := e_G16 ▸ upd_same
        clear e_G16
        refine ⟨_, rfl, _, rfl, _, _, rfl, rfl, .inl ⟨_, rfl, sz (Nat.le_refl 3), ?_⟩⟩
        intro f2 n17
        generalize e_G17 : upd _ f2 _ = G17
        have k17 : Md [] _ G17 := e_G17 ▸ Md.new n17
        have h17 : G17 f2 = some _ := e_G17 ▸ upd_same
        clear e_G17
        refine ⟨sz (Nat.le_refl 2), ?_⟩
        intro f3 n18
        generalize e_G18 : upd _ f3 _ = G18
        have k18 : Md [] _ G18 := e_G18 ▸ Md.new n18
        have h18 : G18 f3 = some _ := e_G18 ▸ upd_same
        clear e_G18
        refine ⟨_, rfl, ⟨_, SqT.of h18⟩, ?_⟩
        have etwo : ((two : Nat) : Int) - 1 = ((two - 1 : Nat) : Int) := by omega
        rw [etwo] at h17
        have K18 := (k16.trans k17).trans k18
        refine go_for (iw := 13) (iv := 14) (es := [.lose t one, .lose t (two - 1)]) (SqT.of h18) (.cons (D.md (k17.trans k18) (dEv K true t one h16)) (.cons (D.md k18 (dEv K true t (two - 1) h17)) .nil)) (wr'.md0 K18) A0 O len2 (fun _ => rfl) (fun _ => rfl) ⟨_, rfl⟩ fun vy G19 k19 w19 => ?_
        have w19' := (w15.md0 K18).md1 k19 nqq.symm
        refine ⟨_, rfl, _, rfl, q, P, r, _, rfl, w19', fun vT20 G20 k20 d20 => ?_⟩
        refine ⟨_, rfl, _, rfl, q', P, r, _, rfl, w19.md0 k20, fun vT21 G21 k21 d21 => ?_⟩
        refine rd_ne (d20.md k21) d21 (ok_tell _) (ok_tell _) fun b hb => ⟨_, rfl, rd_if hb (fun e => ?_) (fun _ => ?_)⟩
        · refine absurd ?_ e
          exact congrArg tellD (stp_lose_lose h12 htwo)
        have MM : Md [] G9 G21 := by
          have h1 : Md [q', q] G9 G21 := ((((M14.up0.trans (k15.up (by simp))).trans K18.up0).trans (k19.up (by simp))).trans k20.up0).trans k21.up0
          exact (h1.drop (k10.free0 nq')).drop nq
        exact ⟨⟨_, _, _, _, _, _, _, _, _, _, _, rfl⟩, (M5.trans M9).trans MM.up0, ((pot7.md0 (k8.trans k9)).md0 MM).up (by omega)⟩
      · exact ⟨⟨_, _, _, _, _, _, _, _, _, _, _, rfl⟩, M5, pot5.up (by omega)⟩
  · rintro σ' H' ⟨⟨v4, v5, v6, v7, v8, v9, v10, v11, v12, v13, v14, rfl⟩, m', pot'⟩
    have w5 := wa4.md1 m' npw.symm
    refine ⟨_, rfl, _, rfl, w, P, r, s0, rfl, w5, fun vE G5 k5 d5 => ?_⟩
    refine ⟨_, rfl, ?_⟩
    refine rd_eq d5 ((dB4.md m').md k5) (ok_tell _) (ok_tell _) fun b hb => ?_
    rw [hb.mpr rfl]
    exact k G5 ((M4.up0.trans m').trans k5.up0) ((pot'.md0 k5).up (by show _ + 1100 * 2 ≤ _; omega))
end Dh

namespace Dh
open PySem PySem.Spec PyProof.Rows L2

theorem gn {i : Nat} {v : V} {σ : L2.St} {H : Hp} {Q : L2.St → Hp → Prop} (h : Q (σ.set i (some v)) H) : gName i v σ H Q := h
theorem drop_len {α : Type} (l : List α) : l.drop l.length = [] := by simp
theorem ok_four (k : Int) (g : List Int) : okD (.tuple [.tuple [], .tuple [], .int k, intsD g]) :=
  .tup (by simp [plainA, plainD, intsD, ints_plain]) (by simp [PyData.depthAll, PyData.depth, intsD, ints_depth])
theorem ok_calm (b : Bool) : okD (evsD (if b = true then [.say, .hear, .heard] else [])) := ok_evs _

abbrev st__law_is_emptied_right : Stmt := topS 51
theorem sc__law_is_emptied_right : FnScope ["wire", "packets", "other", "letter", "answer", "rounds", "lap", "events", "event"] ["wire", "packets"] (defScope st__law_is_emptied_right) := ⟨rfl, rfl, rfl, by decide +kernel, rfl, by decide +kernel, by decide +kernel⟩
theorem ok__law_is_emptied_right {P : Program} {w : World} {K : PySem.W.Frag} {mg : Str → Option Value} {base : Heap} {C aS aH aD f : Addr} {fd : FuncData} (F : Fun K "_law_is_emptied_right" "_law_is_emptied_right" st__law_is_emptied_right f fd) (T : Txt K mg C aS aH aD)
    (m_copy : Mt P w K mg base 6 C "copy" ["self"] (sp_Wire_copy K C))
    (p_letters : Prp P w K mg base 1 C "letters" (sp_Wire_letters K C))
    (p_answers : Prp P w K mg base 1 C "answers" (sp_Wire_answers K C))
    (m_go_on : Mt P w K mg base 5 C "go_on" ["self", "event"] (sp_Wire_go_on K C))
    (f_calm_round : Cl P w K mg base 7 "calm_round" ["wire"] (sp_calm_round K C))
    (p_known : Prp P w K mg base 1 C "known" (sp_Wire_known K C))
    (p_got : Prp P w K mg base 1 C "got" (sp_Wire_got K C)) : FnOk P w K mg base CX0 8 f fd ["wire", "packets"] (sp__law_is_emptied_right K C) := by
  refine F.ok sc__law_is_emptied_right (fun vs H Q E h => len2 h) (fun cdv A outer s H vs Q E hr h => ?_)
  refine ⟨_, (pss_cons (ps_set (i := 2) sc__law_is_emptied_right.nd rfl (by first | exact Or.inl rfl | exact Or.inr rfl) (pe_mtd0 m_copy hr (by decide) (pv 0)))
    (pss_cons (ps_for PassesOwn.never rfl (pi_tup (pe_pr p_letters hr (by decide) (pv 0))) (pg_name (i := 3) sc__law_is_emptied_right.nd rfl (by first | exact Or.inl rfl | exact Or.inr rfl))
      (pss_one (ps_expr (pe_mtd m_go_on hr (by decide) (pv 2) (pa_cons (pe_tup (pa_cons pe_str (pa_cons pe_str (pa_cons pe_int pa_nil)))) pa_nil)))))
    (pss_cons (ps_for PassesOwn.never rfl (pi_tup (pe_pr p_answers hr (by decide) (pv 0))) (pg_name (i := 4) sc__law_is_emptied_right.nd rfl (by first | exact Or.inl rfl | exact Or.inr rfl))
      (pss_one (ps_expr (pe_mtd m_go_on hr (by decide) (pv 2) (pa_cons (pe_tup (pa_cons pe_str (pa_cons pe_str (pa_cons pe_int pa_nil)))) pa_nil)))))
    (pss_cons (ps_if (pt_cmpR (op_neD hr.units) (pe_tup (pa_cons (pe_pr p_letters hr (by decide) (pv 2)) (pa_cons (pe_pr p_answers hr (by decide) (pv 2)) (pa_cons (pe_pr p_known hr (by decide) (pv 2)) (pa_cons (pe_pr p_got hr (by decide) (pv 2)) pa_nil))))) (pe_tup (pa_cons (pe_tup pa_nil) (pa_cons (pe_tup pa_nil) (pa_cons (pe_pr p_known hr (by decide) (pv 0)) (pa_cons (pe_pr p_got hr (by decide) (pv 0)) pa_nil))))) (nomark _))
      (pss_one (ps_ret pe_bl))
      pss_nil)
    (pss_cons (ps_set (i := 5) sc__law_is_emptied_right.nd rfl (by first | exact Or.inl rfl | exact Or.inr rfl) pe_int)
    (pss_cons (ps_for PassesOwn.never rfl (pi_range1 (by rfl) T.b_range (pa_cons (pe_op op_add (pe_callB call_len_seq (by rfl) T.b_len (by decide +kernel) (pa_cons (pv 1) pa_nil)) pe_int) pa_nil)) (pg_name (i := 6) sc__law_is_emptied_right.nd rfl (by first | exact Or.inl rfl | exact Or.inr rfl))
      (pss_cons (ps_set (i := 7) sc__law_is_emptied_right.nd rfl (by first | exact Or.inl rfl | exact Or.inr rfl) (pe_clK f_calm_round hr (by decide) (by rfl) (pk_cons (pv 2) pk_nil)))
    (pss_cons (ps_if (pt_cmpR op_lt (pe_pr p_known hr (by decide) (pv 2)) (pe_callB call_len_seq (by rfl) T.b_len (by decide +kernel) (pa_cons (pv 1) pa_nil)) (nomark _))
      (pss_cons (ps_if (pt_cmpR (op_neD hr.units) (pv 7) (pe_tup (pa_cons (pe_tup (pa_cons pe_str pa_nil)) (pa_cons (pe_tup (pa_cons pe_str pa_nil)) (pa_cons (pe_tup (pa_cons pe_str pa_nil)) pa_nil)))) (nomark _))
      (pss_one (ps_ret pe_bl))
      pss_nil)
    (pss_one (ps_set (i := 5) sc__law_is_emptied_right.nd rfl (by first | exact Or.inl rfl | exact Or.inr rfl) (pe_op op_add (pv 5) pe_int))))
      (pss_one (ps_if (pt_cmpR (op_neD hr.units) (pv 7) (pe_tup pa_nil) (nomark _))
      (pss_one (ps_ret pe_bl))
      pss_nil)))
    (pss_one (ps_for PassesOwn.never rfl (pi_tup (pv 7)) (pg_name (i := 8) sc__law_is_emptied_right.nd rfl (by first | exact Or.inl rfl | exact Or.inr rfl))
      (pss_one (ps_expr (pe_mtd m_go_on hr (by decide) (pv 2) (pa_cons (pv 8) pa_nil)))))))))
    (pss_one (ps_ret (pe_and (pe_cmpR op_eq (pv 5) (pe_op op_sub (pe_callB call_len_seq (by rfl) T.b_len (by decide +kernel) (pa_cons (pv 1) pa_nil)) (pe_pr p_known hr (by decide) (pv 0))) (nomark _)) (pe_one (pe_cmpR (op_eqD hr.units) (pe_pr p_got hr (by decide) (pv 2)) (pv 1) (nomark _)))))))))))), ?_⟩
  obtain ⟨_, vPs, rfl, w, P, r, s0, rfl, wa, A0, O, dPs, k⟩ := h
  have wa' := wa
  obtain ⟨dx, vP, vG, vT, vB, hw, dP, dG, dT, dB⟩ := wa'
  refine ⟨_, rfl, w, dx, _, rfl, hw, lk_copy, _, rfl, w, P, r, s0, rfl, wa, A0, fun q G1 nq k1 w1 => ?_⟩
  have wr1 := wa.md0 k1
  have hw1 := k1.get0 hw
  have nqw : w ≠ q := fun e => by rw [e, nq] at hw; cases hw
  -- the letters
  refine ⟨_, rfl, w, dx, _, rfl, hw1, _, rfl, w, P, r, s0, rfl, wr1, fun vL dL => ?_⟩
  obtain ⟨aL, xL, rfl, hL, hLa⟩ := dL.tup_inv
  have lL : xL.length = s0.there.length := by rw [hLa.len, List.length_map]
  refine ⟨_, rfl, ⟨_, hL⟩, ?_⟩
  refine for_tup (K := K) (a := aL) (xs := xL) (fun i σ' H' => (∃ v3, σ' = [some (.ref w), some vPs, some (.ref q), v3, none, none, none, none, none]) ∧ Md [q] G1 H' ∧ WireAt K C H' q P r { s0 with there := s0.there.drop i } ∧ Ok P r { s0 with there := s0.there.drop i }) ⟨⟨_, rfl⟩, .refl, w1, O⟩ (fun i σ' H' _ z => z.2.1.sqt hL) ?_ ?_
  · rintro i x σ' H' hi ⟨⟨v3, rfl⟩, m', w', O'⟩
    have hil : i < s0.there.length := by rw [← lL]; exact (List.getElem?_eq_some_iff.mp hi).1
    have w'' := w'
    obtain ⟨dx2, vP2, vG2, vT2, vB2, hw2, _⟩ := w''
    refine ⟨_, rfl, q, dx2, _, rfl, hw2, lk_go_on, sz (Nat.le_refl 3), ?_⟩
    intro e1 n2
    generalize e_G2 : upd _ e1 _ = G2
    have k2 : Md [] _ G2 := e_G2 ▸ Md.new n2
    have h2 : G2 e1 = some _ := e_G2 ▸ upd_same
    clear e_G2
    have hc : can P r { s0 with there := s0.there.drop i } (.lose true 0) = true := by
      simp only [can, decide_eq_true_eq]
      show 0 < (s0.there.drop i).length
      rw [List.length_drop]; omega
    refine ⟨_, _, rfl, q, P, r, _, .lose true 0, rfl, w'.md0 k2, A0, O'.sz A0, dEv K true true 0 h2, hc, fun G3 k3 w3 => ?_⟩
    have es : stp P r { s0 with there := s0.there.drop i } (.lose true 0) = { s0 with there := s0.there.drop (i + 1) } := by
      show { s0 with there := lost (s0.there.drop i) 0 } = _
      unfold lost
      rw [List.take_zero, List.nil_append, List.drop_drop, Nat.zero_add]
    have O3 := ok_step O' hc
    rw [es] at w3 O3
    exact ⟨⟨_, rfl⟩, (m'.trans k2.up0).trans k3, w3, O3⟩
  rintro σ' G4 ⟨⟨v3, rfl⟩, m4, w4, O4⟩
  rw [lL, drop_len] at w4 O4
  have wr4 := wr1.md1 m4 nqw
  have hw4 := m4.get1 hw1 nqw
  -- the answers
  refine ⟨_, rfl, w, dx, _, rfl, hw4, _, rfl, w, P, r, s0, rfl, wr4, fun vA dA => ?_⟩
  obtain ⟨aA, xA, rfl, hA, hAa⟩ := dA.tup_inv
  have lA : xA.length = s0.back.length := by rw [hAa.len, List.length_map]
  refine ⟨_, rfl, ⟨_, hA⟩, ?_⟩
  refine for_tup (K := K) (a := aA) (xs := xA) (fun i σ' H' => (∃ v4, σ' = [some (.ref w), some vPs, some (.ref q), v3, v4, none, none, none, none]) ∧ Md [q] G4 H' ∧ WireAt K C H' q P r { s0 with there := [], back := s0.back.drop i } ∧ Ok P r { s0 with there := [], back := s0.back.drop i }) ⟨⟨_, rfl⟩, .refl, w4, O4⟩ (fun i σ' H' _ z => z.2.1.sqt hA) ?_ ?_
  · rintro i x σ' H' hi ⟨⟨v4, rfl⟩, m', w', O'⟩
    have hil : i < s0.back.length := by rw [← lA]; exact (List.getElem?_eq_some_iff.mp hi).1
    have w'' := w'
    obtain ⟨dx2, vP2, vG2, vT2, vB2, hw2, _⟩ := w''
    refine ⟨_, rfl, q, dx2, _, rfl, hw2, lk_go_on, sz (Nat.le_refl 3), ?_⟩
    intro e1 n2
    generalize e_G2 : upd _ e1 _ = G2
    have k2 : Md [] _ G2 := e_G2 ▸ Md.new n2
    have h2 : G2 e1 = some _ := e_G2 ▸ upd_same
    clear e_G2
    have hc : can P r { s0 with there := [], back := s0.back.drop i } (.lose false 0) = true := by
      simp only [can, decide_eq_true_eq]
      show 0 < (s0.back.drop i).length
      rw [List.length_drop]; omega
    refine ⟨_, _, rfl, q, P, r, _, .lose false 0, rfl, w'.md0 k2, A0, O'.sz A0, dEv K true false 0 h2, hc, fun G3 k3 w3 => ?_⟩
    have es : stp P r { s0 with there := [], back := s0.back.drop i } (.lose false 0) = { s0 with there := [], back := s0.back.drop (i + 1) } := by
      show { s0 with there := [], back := lost (s0.back.drop i) 0 } = _
      unfold lost
      rw [List.take_zero, List.nil_append, List.drop_drop, Nat.zero_add]
    have O3 := ok_step O' hc
    rw [es] at w3 O3
    exact ⟨⟨_, rfl⟩, (m'.trans k2.up0).trans k3, w3, O3⟩
  rintro σ' G5 ⟨⟨v4, rfl⟩, m5, w5, O5⟩
  rw [lA, drop_len] at w5 O5
  have wr5 := wr4.md1 m5 nqw
  have hw5 := m5.get1 hw4 nqw
  have w5' := w5
  obtain ⟨dx5, vP5, vG5, vT5, vB5, hq5, _⟩ := w5'
  -- the comparison
  refine ⟨_, rfl, q, dx5, _, rfl, hq5, _, rfl, q, P, r, _, rfl, w5, fun v1 d1 => ?_⟩
  refine ⟨_, rfl, q, dx5, _, rfl, hq5, _, rfl, q, P, r, _, rfl, w5, fun v2 d2 => ?_⟩
  refine ⟨_, rfl, q, dx5, _, rfl, hq5, _, rfl, q, P, r, _, rfl, w5, ?_⟩
  refine ⟨_, rfl, q, dx5, _, rfl, hq5, _, rfl, q, P, r, _, rfl, w5, fun vg dg => ?_⟩
  refine ⟨sz (Nat.le_refl 4), ?_⟩
  intro t1 n6
  generalize e_G6 : upd _ t1 _ = G6
  have k6 : Md [] _ G6 := e_G6 ▸ Md.new n6
  have h6 : G6 t1 = some _ := e_G6 ▸ upd_same
  clear e_G6
  refine ⟨sz (Nat.zero_le 1), ?_⟩
  intro t2 n7
  generalize e_G7 : upd _ t2 _ = G7
  have k7 : Md [] _ G7 := e_G7 ▸ Md.new n7
  have h7 : G7 t2 = some _ := e_G7 ▸ upd_same
  clear e_G7
  refine ⟨sz (Nat.zero_le 1), ?_⟩
  intro t3 n8
  generalize e_G8 : upd _ t3 _ = G8
  have k8 : Md [] _ G8 := e_G8 ▸ Md.new n8
  have h8 : G8 t3 = some _ := e_G8 ▸ upd_same
  clear e_G8
  have wr8 := ((wr5.md0 k6).md0 k7).md0 k8
  have hw8 := k8.get0 (k7.get0 (k6.get0 hw5))
  refine ⟨_, rfl, w, dx, _, rfl, hw8, _, rfl, w, P, r, _, rfl, wr8, ?_⟩
  refine ⟨_, rfl, w, dx, _, rfl, hw8, _, rfl, w, P, r, _, rfl, wr8, fun vg2 dg2 => ?_⟩
  refine ⟨sz (Nat.le_refl 4), ?_⟩
  intro t4 n9
  generalize e_G9 : upd _ t4 _ = G9
  have k9 : Md [] _ G9 := e_G9 ▸ Md.new n9
  have h9 : G9 t4 = some _ := e_G9 ▸ upd_same
  clear e_G9
  have k69 : Md [] G5 G9 := ((k6.trans k7).trans k8).trans k9
  refine rd_ne (d := .tuple [.tuple [], .tuple [], .int s0.known, intsD s0.got]) (e := .tuple [.tuple [], .tuple [], .int s0.known, intsD s0.got])
    (.tup (SqT.of ((k7.trans (k8.trans k9)).get0 h6)) (.cons (d1.md k69) (.cons (d2.md k69) (.cons (.int _) (.cons (dg.md k69) .nil)))))
    (.tup (SqT.of h9) (.cons (.tup (SqT.of ((k8.trans k9).get0 h7)) .nil) (.cons (.tup (SqT.of (k9.get0 h8)) .nil) (.cons (.int _) (.cons (dg2.md k9) .nil))))) (ok_four _ _) (ok_four _ _) fun b hb => ⟨_, rfl, rd_if hb (fun e => absurd rfl e) (fun _ => ?_)⟩
  -- the rounds
  obtain ⟨aP, xP, rfl, hP, hPa⟩ := dPs.tup_inv
  have lP : xP.length = P.length := by rw [hPa.len, List.length_map]
  have K9 : Md [q] H G9 := (((k1.up0.trans m4).trans m5).trans k69.up0)
  have hP9 := K9.sqt hP
  have hPd : D K H (.ref aP) (intsD P) := .tup hP hPa
  refine ⟨_, rfl, _, _, rfl, .inr hP9, _, _, rfl, rfl, ?_⟩
  have h100 := A0.len
  refine ⟨_, rfl, by omega, by omega, ?_⟩
  have en : (((xP.length : Nat) : Int) + 2).toNat = P.length + 2 := by omega
  show ∃ W : Nat → Nat → L2.St → Hp → Prop, (∃ m, W 0 m _ G9) ∧ ∀ i m σ H, W i m σ H → ((Itr 0 ((((xP.length : Nat) : Int) + 2).toNat)).stop i H ∧ _) ∨ _
  rw [en]
  refine for_range (lo := 0) (n := P.length + 2) (fun i σ H' => ∃ v6 v7 v8 s, σ = [some (.ref w), some (.ref aP), some (.ref q), v3, v4, some (.int ((min (s0.known + i) P.length : Nat) - (s0.known : Nat) : Int)), v6, v7, v8] ∧
    Md [q] G9 H' ∧ WireAt K C H' q P r s ∧ Ok P r s ∧ s.there = [] ∧ s.back = [] ∧ s.known = min (s0.known + i) P.length) ?_ ?_ ?_
  · refine ⟨none, none, none, _, ?_, .refl, w5.md0 k69, O5, rfl, rfl, ?_⟩
    · have e0 : ((min (s0.known + 0) P.length : Nat) - (s0.known : Nat) : Int) = 0 := by have := O.kn; omega
      rw [e0]
      rfl
    · show s0.known = _
      rw [Nat.add_zero, Nat.min_eq_left O.kn]
  · rintro i σ' H' hi ⟨v6, v7, v8, s, rfl, m', w', O', ht, hb, hk⟩
    refine ⟨_, rfl, rfl, _, rfl, q, P, r, s, rfl, w', A0, ht, hb, fun vE Ga ka dE => ?_⟩
    have wa := w'.md0 ka
    have wa' := wa
    obtain ⟨dxa, vPa, vGa, vTa, vBa, hqa, _⟩ := wa'
    have hPa' := (m'.trans ka.up0).sqt hP9
    have Ma : Md [q] G9 Ga := m'.trans ka.up0
    have eK : s0.known ≤ P.length := O.kn
    refine gn ?_
    dsimp only
    refine via_ts (fun σ2 H2 => ∃ v6 v8, σ2 = [some (.ref w), some (.ref aP), some (.ref q), v3, v4, some (.int ((min (s0.known + (i + 1)) P.length : Nat) - (s0.known : Nat) : Int)), v6, some vE, v8] ∧ Md [] Ga H2) (fun N hN => ?_) ?_
    · refine ⟨_, rfl, q, dxa, _, rfl, hqa, _, rfl, q, P, r, s, rfl, wa, _, rfl, _, _, rfl, .inr hPa', _, _, rfl, rfl, _, rfl, rd_ifd (fun hl => ?_) (fun hl => ?_)⟩
      · have hl' : s.known < P.length := by omega
        rw [if_pos hl'] at dE
        refine ⟨_, rfl, sz (Nat.le_refl 1), ?_⟩
        intro c1 nb
        generalize e_Gb : upd _ c1 _ = Gb
        have kb : Md [] _ Gb := e_Gb ▸ Md.new nb
        have hb1 : Gb c1 = some _ := e_Gb ▸ upd_same
        clear e_Gb
        refine ⟨sz (Nat.le_refl 1), ?_⟩
        intro c2 nc
        generalize e_Gc : upd _ c2 _ = Gc
        have kc : Md [] _ Gc := e_Gc ▸ Md.new nc
        have hc1 : Gc c2 = some _ := e_Gc ▸ upd_same
        clear e_Gc
        refine ⟨sz (Nat.le_refl 1), ?_⟩
        intro c3 nd
        generalize e_Gd : upd _ c3 _ = Gd
        have kd : Md [] _ Gd := e_Gd ▸ Md.new nd
        have hd1 : Gd c3 = some _ := e_Gd ▸ upd_same
        clear e_Gd
        refine ⟨sz (Nat.le_refl 3), ?_⟩
        intro c4 ne
        generalize e_Ge : upd _ c4 _ = Ge
        have ke : Md [] _ Ge := e_Ge ▸ Md.new ne
        have he1 : Ge c4 = some _ := e_Ge ▸ upd_same
        clear e_Ge
        have kE : Md [] Ga Ge := ((kb.trans kc).trans kd).trans ke
        refine rd_ne (dE.md kE) (.tup (SqT.of he1) (.cons (.tup (SqT.of ((kc.trans (kd.trans ke)).get0 hb1)) (.cons (.str _) .nil)) (.cons (.tup (SqT.of ((kd.trans ke).get0 hc1)) (.cons (.str _) .nil)) (.cons (.tup (SqT.of (ke.get0 hd1)) (.cons (.str _) .nil)) .nil)))) (ok_evs [.say, .hear, .heard]) (ok_evs [.say, .hear, .heard]) fun b hb => ⟨_, rfl, rd_if hb (fun e => absurd rfl e) (fun _ => ?_)⟩
        refine ⟨_, rfl, _, _, rfl, rfl, hN _ _ ⟨some (.int (0 + i)), v8, ?_, kE⟩⟩
        have e : ((min (s0.known + (i + 1)) P.length : Nat) - (s0.known : Nat) : Int) = ((min (s0.known + i) P.length : Nat) - (s0.known : Nat) : Int) + 1 := by omega
        rw [e]
        rfl
      · have hl' : ¬ s.known < P.length := by omega
        rw [if_neg hl'] at dE
        refine ⟨_, rfl, sz (Nat.zero_le 1), ?_⟩
        intro c1 nb
        generalize e_Gb : upd _ c1 _ = Gb
        have kb : Md [] _ Gb := e_Gb ▸ Md.new nb
        have hb1 : Gb c1 = some _ := e_Gb ▸ upd_same
        clear e_Gb
        refine rd_ne (dE.md kb) (.tup (SqT.of hb1) .nil) (ok_evs []) (ok_evs []) fun b hb => ⟨_, rfl, rd_if hb (fun e => absurd rfl e) (fun _ => ?_)⟩
        refine hN _ _ ⟨some (.int (0 + i)), v8, ?_, kb⟩
        have e : ((min (s0.known + (i + 1)) P.length : Nat) - (s0.known : Nat) : Int) = ((min (s0.known + i) P.length : Nat) - (s0.known : Nat) : Int) := by omega
        rw [e]
        rfl
    · rintro σ2 H2 ⟨v6', v8', rfl, k2⟩
      obtain ⟨aE, xE, rfl, hE, hEa, _⟩ := evs_inv dE
      refine ⟨_, rfl, _, rfl, ⟨_, k2.sqt hE⟩, ?_⟩
      have M2 : Md [q] G9 H2 := Ma.trans k2.up0
      by_cases hl' : s.known < P.length
      · rw [if_pos hl'] at hEa
        obtain ⟨cs1, cs2⟩ := calm_step O' ht hb hl'
        refine go_for (iw := 2) (iv := 8) (es := [.say, .hear, .heard]) (k2.sqt hE) (hEa.md k2) (wa.md0 k2) A0 O' cs1 (fun _ => rfl) (fun _ => rfl) ⟨_, rfl⟩ fun vx G15 k15 w15 => ?_
        have O15 := ok_run O' cs1
        refine ⟨_, _, _, _, rfl, M2.trans k15, w15, O15, ?_, ?_, ?_⟩
        · rw [cs2]
        · rw [cs2]
        · rw [cs2]
          show s.known + 1 = _
          omega
      · rw [if_neg hl'] at hEa
        refine go_for (iw := 2) (iv := 8) (es := []) (k2.sqt hE) (hEa.md k2) (wa.md0 k2) A0 O' trivial (fun _ => rfl) (fun _ => rfl) ⟨_, rfl⟩ fun vx G15 k15 w15 => ?_
        exact ⟨_, _, _, _, rfl, M2.trans k15, w15, O', ht, hb, by show s.known = _; omega⟩
  · rintro σ' H' ⟨v6, v7, v8, s, rfl, m', w', O', ht, hb, hk⟩
    have hkP : s.known = P.length := by
      have := O.kn
      omega
    have hgP : s.got = P := by
      have h1 := O'.got
      have h2 : s.got.length = P.length := by
        have := O'.gp
        rcases O'.shape with h | h <;> omega
      rw [h2, List.take_length] at h1
      exact h1
    have wr := (wr8.md0 k9).md1 m' nqw
    have wr' := wr
    obtain ⟨dxr, vPr, vGr, vTr, vBr, hwr, _⟩ := wr'
    have w'' := w'
    obtain ⟨dxq, vPq, vGq, vTq, vBq, hq', _⟩ := w''
    refine ⟨_, rfl, _, rfl, _, _, rfl, .inr (m'.sqt hP9), _, rfl, w, dxr, _, rfl, hwr, _, rfl, w, P, r, s0, rfl, wr, _, _, rfl, rfl, ?_⟩
    refine ⟨rfl, _, rfl, rd_ifd (fun _ => ?_) (fun z => ?_)⟩
    · refine ⟨_, rfl, q, dxq, _, rfl, hq', _, rfl, q, P, r, s, rfl, w', fun vg dg => ?_⟩
      rw [hgP] at dg
      refine ⟨_, rfl, ?_⟩
      refine rd_eq dg (hPd.md (K9.trans m')) (ok_ints _) (ok_ints _) fun b hb => ?_
      rw [hb.mpr rfl]
      exact k H' ((K9.trans m').drop nq)
    · exact absurd (congrArg V.int (by omega)) z
end Dh

namespace Dh
open PySem PySem.Spec PyProof.Rows L2

theorem nxt {D : Ends} {σ : L2.St} {H : Hp} (h : D.nx σ H) : tNext D σ H := h
theorem rd_yes {σ : L2.St} {H : Hp} {A B : Hp → Prop} (h : A H) : tYes σ H fun b H3 => if b = true then A H3 else B H3 := iteT (B := B H) h
theorem mem2 {x : V} {l : List Int} (h : x ∈ l.map V.int) : ∃ u ∈ l, x = .int u := by
  obtain ⟨u, hu, e⟩ := List.mem_map.mp h
  exact ⟨u, hu, e.symm⟩

abbrev st__law_right : Stmt := topS 52
theorem sc__law_right : FnScope ["pot", "many", "packets", "packet", "room", "wire", "events", "is_lost", "wide", "cut", "part", "rest", "event"] ["pot", "many"] (defScope st__law_right) := ⟨rfl, rfl, rfl, by decide +kernel, rfl, by decide +kernel, by decide +kernel⟩
theorem ok__law_right {P : Program} {w : World} {K : PySem.W.Frag} {mg : Str → Option Value} {base : Heap} {C aS aH aD f : Addr} {fd : FuncData} (F : Fun K "_law_right" "_law_right" st__law_right f fd) (T : Txt K mg C aS aH aD)
    (f__law_going : Cl P w K mg base 6 "_law_going" ["pot", "packets", "room", "many"] (sp__law_going K C))
    (f__law_take : Cl P w K mg base 1 "_law_take" ["pot", "upto"] (sp__law_take K C))
    (f_played_wire : Cl P w K mg base 6 "played_wire" ["packets", "room", "events"] (sp_played_wire K C))
    (m_copy : Mt P w K mg base 6 C "copy" ["self"] (sp_Wire_copy K C))
    (f__law_of : Cl P w K mg base 2 "_law_of" ["pot", "some"] (sp__law_of K C))
    (f_can_be : Cl P w K mg base 5 "can_be" ["packets", "room", "value"] (sp_can_be K C))
    (m_go_on : Mt P w K mg base 5 C "go_on" ["self", "event"] (sp_Wire_go_on K C))
    (p_bits : Prp P w K mg base 1 C "bits" (sp_Wire_bits K C))
    (f__law_are_changes_right : Cl P w K mg base 7 "_law_are_changes_right" ["pot", "wire", "room"] (sp__law_are_changes_right K C))
    (f__law_is_emptied_right : Cl P w K mg base 8 "_law_is_emptied_right" ["wire", "packets"] (sp__law_is_emptied_right K C))
    (p_standing : Prp P w K mg base 1 C "standing" (sp_Wire_standing K C))
    (f__law_tells : Cl P w K mg base 3 "_law_tells" ["wire"] (sp__law_tells K C))
    (p_known : Prp P w K mg base 1 C "known" (sp_Wire_known K C))
    (p_room : Prp P w K mg base 1 C "room" (sp_Wire_room K C))
    (p_got : Prp P w K mg base 1 C "got" (sp_Wire_got K C)) : FnOk P w K mg base CX0 9 f fd ["pot", "many"] (sp__law_right K C) := by
  refine F.ok sc__law_right (fun vs H Q E h => len2 h) (fun cdv A outer s H vs Q E hr h => ?_)
  refine ⟨_, (pss_cons (ps_set (i := 2) sc__law_right.nd rfl (by first | exact Or.inl rfl | exact Or.inr rfl) (pe_callTy call_tuple_of (by rfl) T.b_tuple (by decide +kernel) (pa_cons (pe_lc (own := [("packet", 3)]) (by rfl) sc__law_right.nd (pi_range1 (by rfl) T.b_range (pa_cons (pe_op op_add pe_int (pe_cl f__law_take hr (by decide) (by rfl) (pa_cons (pv 0) (pa_cons pe_int pa_nil)))) pa_nil)) (blkOk_by (N := ["pot", "many", "packets", "packet", "room", "wire", "events", "is_lost", "wide", "cut", "part", "rest", "event"]) (sc := defScope st__law_right) (own := [("packet", 3)]) (by decide +kernel)) (fun _ _ _ _ _ => (pg_name (i := 3) sc__law_right.nd rfl (by first | exact Or.inl rfl | exact Or.inr rfl))) (fun _ _ _ _ _ => pts_nil) (fun _ _ _ _ _ => (pe_callTy call_int1 (by rfl) T.b_int (by decide +kernel) (pa_cons (pe_cl f__law_take hr (by decide) (by rfl) (pa_cons (pv 0) (pa_cons (pe_cl f__law_of hr (by decide) (by rfl) (pa_cons (pv 0) (pa_cons (pe_lst (pa_cons pe_int (pa_cons pe_int pa_nil))) pa_nil))) pa_nil))) pa_nil)))) pa_nil)))
    (pss_cons (ps_set (i := 4) sc__law_right.nd rfl (by first | exact Or.inl rfl | exact Or.inr rfl) (pe_callTy call_int1 (by rfl) T.b_int (by decide +kernel) (pa_cons (pe_cl f__law_of hr (by decide) (by rfl) (pa_cons (pv 0) (pa_cons (pe_lst (pa_cons pe_int (pa_cons pe_int (pa_cons pe_int (pa_cons pe_int (pa_cons pe_int pa_nil)))))) pa_nil))) pa_nil)))
    (pss_cons (ps_asg (pe_cl f__law_going hr (by decide) (by rfl) (pa_cons (pv 0) (pa_cons (pv 2) (pa_cons (pv 4) (pa_cons (pv 1) pa_nil))))) (pg_tup rfl (pgs_cons (pg_name (i := 5) sc__law_right.nd rfl (by first | exact Or.inl rfl | exact Or.inr rfl)) (pgs_cons (pg_name (i := 6) sc__law_right.nd rfl (by first | exact Or.inl rfl | exact Or.inr rfl)) (pgs_cons (pg_name (i := 7) sc__law_right.nd rfl (by first | exact Or.inl rfl | exact Or.inr rfl)) pgs_nil)))))
    (pss_cons (ps_if (pt_cmpR op_notBl (pe_clK f_can_be hr (by decide) (by rfl) (pk_cons (pv 2) (pk_cons (pv 4) (pk_cons (pe_pr p_standing hr (by decide) (pv 5)) pk_nil)))) pe_bl (nomark _))
      (pss_one (ps_ret pe_bl))
      pss_nil)
    (pss_cons (ps_if (pt_cmpR op_notBl (pe_cl f_can_be hr (by decide) (by rfl) (pa_cons (pv 2) (pa_cons pe_int (pa_cons (pe_pr p_standing hr (by decide) (pv 5)) pa_nil)))) pe_bl (nomark _))
      (pss_one (ps_ret pe_bl))
      pss_nil)
    (pss_cons (ps_if (pt_not (pt_val (pv 7)))
      (pss_cons (ps_set (i := 8) sc__law_right.nd rfl (by first | exact Or.inl rfl | exact Or.inr rfl) (pe_clK f_played_wire hr (by decide) (by rfl) (pk_cons (pv 2) (pk_cons (pe_callTy call_int1 (by rfl) T.b_int (by decide +kernel) (pa_cons (pe_op op_add (pv 4) pe_int) pa_nil)) (pk_cons (pv 6) pk_nil)))))
    (pss_one (ps_if (PW.pt (pw_or (pt_cmpR (op_neD hr.units) (pe_cl f__law_tells hr (by decide) (by rfl) (pa_cons (pv 8) pa_nil)) (pe_cl f__law_tells hr (by decide) (by rfl) (pa_cons (pv 5) pa_nil)) (nomark _)) (pw_or1 (pt_cmpR op_ne (pe_pr p_room hr (by decide) (pv 8)) (pe_op op_add (pv 4) pe_int) (nomark _)))))
      (pss_one (ps_ret pe_bl))
      pss_nil)))
      pss_nil)
    (pss_cons (ps_set (i := 9) sc__law_right.nd rfl (by first | exact Or.inl rfl | exact Or.inr rfl) (pe_cl f__law_take hr (by decide) (by rfl) (pa_cons (pv 0) (pa_cons (pe_op op_add (pe_callB call_len_seq (by rfl) T.b_len (by decide +kernel) (pa_cons (pv 6) pa_nil)) pe_int) pa_nil))))
    (pss_cons (ps_set (i := 10) sc__law_right.nd rfl (by first | exact Or.inl rfl | exact Or.inr rfl) (pe_cl f_played_wire hr (by decide) (by rfl) (pa_cons (pv 2) (pa_cons (pv 4) (pa_cons (pe_slice sl_tupA (pv 6) po_none (po_some (pv 9))) pa_nil)))))
    (pss_cons (ps_set (i := 11) sc__law_right.nd rfl (by first | exact Or.inl rfl | exact Or.inr rfl) (pe_mtd0 m_copy hr (by decide) (pv 10)))
    (pss_cons (ps_for PassesOwn.never rfl (pi_tup (pe_slice sl_tupA (pv 6) (po_some (pv 9)) po_none)) (pg_name (i := 12) sc__law_right.nd rfl (by first | exact Or.inl rfl | exact Or.inr rfl))
      (pss_one (ps_expr (pe_mtd m_go_on hr (by decide) (pv 11) (pa_cons (pv 12) pa_nil)))))
    (pss_cons (ps_if (PW.pt (pw_or (pt_cmpR (op_neD hr.units) (pe_cl f__law_tells hr (by decide) (by rfl) (pa_cons (pv 11) pa_nil)) (pe_cl f__law_tells hr (by decide) (by rfl) (pa_cons (pv 5) pa_nil)) (nomark _)) (pw_or1 (pt_cmpR (op_neD hr.units) (pe_cl f__law_tells hr (by decide) (by rfl) (pa_cons (pv 10) pa_nil)) (pe_cl f__law_tells hr (by decide) (by rfl) (pa_cons (pe_cl f_played_wire hr (by decide) (by rfl) (pa_cons (pv 2) (pa_cons (pv 4) (pa_cons (pe_slice sl_tupA (pv 6) po_none (po_some (pv 9))) pa_nil)))) pa_nil)) (nomark _)))))
      (pss_one (ps_ret pe_bl))
      pss_nil)
    (pss_cons (ps_if (pt_not (pt_chain op_le op_le (pe_pr p_known hr (by decide) (pv 5)) (pe_callB call_len_seq (by rfl) T.b_len (by decide +kernel) (pa_cons (pe_pr p_got hr (by decide) (pv 5)) pa_nil)) (pe_op op_add (pe_pr p_known hr (by decide) (pv 5)) pe_int)))
      (pss_one (ps_ret pe_bl))
      pss_nil)
    (pss_cons (ps_if (pt_cmpR (op_neD hr.units) (pe_pr p_bits hr (by decide) (pv 5)) (pe_tup (pa_cons (pe_op op_mod (pe_pr p_known hr (by decide) (pv 5)) pe_int) (pa_cons (pe_op op_mod (pe_callB call_len_seq (by rfl) T.b_len (by decide +kernel) (pa_cons (pe_pr p_got hr (by decide) (pv 5)) pa_nil)) pe_int) pa_nil))) (nomark _))
      (pss_one (ps_ret pe_bl))
      pss_nil)
    (pss_one (ps_ret (pe_and (pe_cl f__law_are_changes_right hr (by decide) (by rfl) (pa_cons (pv 0) (pa_cons (pv 5) (pa_cons (pv 4) pa_nil)))) (pe_one (pe_cl f__law_is_emptied_right hr (by decide) (by rfl) (pa_cons (pv 5) (pa_cons (pv 2) pa_nil)))))))))))))))))))), ?_⟩
  obtain ⟨_, _, rfl, p, n, m, rfl, hpot, hn, rfl, hm, k⟩ := h
  refine ⟨_, rfl, _, _, rfl, p, n, 12, rfl, hpot, by omega, rfl, by decide, by decide, fun d G1 k1 pot1 d0 d1 => ?_⟩
  refine ⟨_, _, rfl, rfl, _, rfl, by omega, by omega, ?_⟩
  obtain ⟨m0, rfl⟩ : ∃ m0 : Nat, d = m0 := ⟨d.toNat, by omega⟩
  have en : ((1 : Int) + ((m0 : Nat) : Int)).toNat = m0 + 1 := by omega
  rw [en]
  intro D0 nD0
  have npD : p ≠ D0 := pot1.ne nD0
  refine lc_range (lo := 0) (n := m0 + 1) (fun i H' => Md [p] H H' ∧ PotAt H' p (n + 1 + 2 * i) ∧ ∃ l : List Int, H' D0 = some (.lst (l.map V.int)) ∧ l.length = i ∧ ∀ x ∈ l, 0 ≤ x ∧ x ≤ 1000000) ?_ ?_ ?_
  · exact ⟨k1.trans (Md.new nD0), pot1.md (ps := []) (Md.new nD0) (by simp), [], upd_same, rfl, by simp⟩
  · rintro i H' hi ⟨m', pot', l, hl, hll, hlx⟩
    refine ⟨rfl, ?_⟩
    refine rd_yes ?_
    refine ⟨_, rfl, _, rfl, sz (Nat.le_refl 2), ?_⟩
    intro pL n2
    generalize e_G2 : upd _ pL _ = G2
    have k2 : Md [] _ G2 := e_G2 ▸ Md.new n2
    have h2 : G2 pL = some _ := e_G2 ▸ upd_same
    clear e_G2
    refine ⟨_, _, rfl, p, n + 1 + 2 * i, pL, [2, 1000001].map V.int, rfl, pot'.md0 k2, by omega, rfl, .inl ⟨SqL.of h2, (pot'.ne n2).symm⟩, by decide, by decide, fun x G3 k3 pot3 hx => ?_⟩
    obtain ⟨u, hu, rfl⟩ := mem2 hx
    have hu' : 1 ≤ u ∧ u ≤ 1000001 := by
      simp only [List.mem_cons, List.not_mem_nil, or_false] at hu
      omega
    refine ⟨_, _, rfl, p, n + 1 + 2 * i + 1, u, rfl, pot3, by omega, rfl, by omega, by omega, fun d G4 k4 pot4 d0 d1 => .inl ⟨_, rfl, ?_⟩⟩
    have hl4 := k4.get1 (k3.get1 (k2.get0 hl) npD.symm) npD.symm
    refine ⟨_, hl4, szl (m := 1000) (by rw [List.length_map]; omega), ?_⟩
    generalize e_G5 : upd _ D0 _ = G5
    have k5 : Md [D0] _ G5 := e_G5 ▸ Md.mut hl4 trivial
    have h5 : G5 D0 = some _ := e_G5 ▸ upd_same
    clear e_G5
    refine ⟨?_, (pot4.md k5 (by simpa using npD)).up (by omega), l ++ [d], by rw [h5, List.map_append]; rfl, by simp [hll], ?_⟩
    · have M : Md [D0, p] H G5 := (((m'.trans k2.up0).trans k3).trans k4 |>.up (by simp)).trans (k5.up (by simp))
      exact M.drop (k1.free nD0 (by simpa using npD.symm))
    · intro y hy
      rcases List.mem_append.mp hy with hy | hy
      · exact hlx y hy
      · have : y = d := by simpa using hy
        omega
  rintro H6 ⟨m6, pot6, P, hP, hPl, hPx⟩
  refine ⟨D0, P.map V.int, rfl, .inl ⟨SqL.of hP, ?_⟩⟩
  intro aP n7
  generalize e_G7 : upd _ aP _ = G7
  have k7 : Md [] _ G7 := e_G7 ▸ Md.new n7
  have h7 : G7 aP = some _ := e_G7 ▸ upd_same
  clear e_G7
  have M7 : Md [p] H G7 := m6.trans k7.up0
  have dP7 : D K G7 (.ref aP) (intsD P) := .tup (SqT.of h7) (DA.ints P)
  have pot7 := pot6.md0 k7
  -- room
  refine ⟨_, rfl, sz (Nat.le_refl 5), ?_⟩
  intro pR n8
  generalize e_G8 : upd _ pR _ = G8
  have k8 : Md [] _ G8 := e_G8 ▸ Md.new n8
  have h8 : G8 pR = some _ := e_G8 ▸ upd_same
  clear e_G8
  refine ⟨_, _, rfl, p, n + 1 + 2 * (m0 + 1), pR, [1, 2, 3, 7, 19].map V.int, rfl, pot7.md0 k8, by omega, rfl, .inl ⟨SqL.of h8, (pot7.ne n8).symm⟩, by decide, by decide, fun x G9 k9 pot9 hx => ?_⟩
  obtain ⟨r, hr', rfl⟩ := mem2 hx
  have hr2 : 1 ≤ r ∧ r ≤ 19 := by
    simp only [List.mem_cons, List.not_mem_nil, or_false] at hr'
    omega
  refine .inl ⟨_, rfl, ?_⟩
  have A0 : Fit P r := ⟨by omega, hPx, hr2.1, by omega⟩
  have A1 : Fit P (r + 1) := ⟨by omega, hPx, by omega, by omega⟩
  have M9 : Md [p] H G9 := (M7.trans k8.up0).trans k9
  have dP9 := (dP7.md k8).md k9
  -- going
  refine ⟨_, rfl, _, rfl, _, rfl, _, rfl, _, _, _, _, rfl, p, n + 1 + 2 * (m0 + 1) + 1, P, r, m, rfl, pot9, by omega, dP9, rfl, A0, rfl, by omega, fun t q vE G10 es b nq k10 pot10 hT w10 dE hes hcan hloss => ?_⟩
  have M10 : Md [p] H G10 := M9.trans k10
  have npq : p ≠ q := pot9.ne nq
  have dP10 := dP9.md k10
  refine ⟨t, _, rfl, hT, rfl, _, _, rfl, _, _, rfl, _, _, rfl, rfl, ?_⟩
  have O := ok_run (ok_init A0.lo) hcan
  have Z := O.sz A0
  -- can_be
  have w10' := w10
  obtain ⟨dx, vP, vG, vT, vB, hw10, _⟩ := w10'
  refine ⟨_, rfl, _, rfl, _, rfl, q, dx, _, rfl, hw10, _, rfl, q, P, r, _, rfl, w10, ?_⟩
  intro vS G11 k11 dS
  refine ⟨rfl, _, _, _, rfl, P, r, _, dP10.md k11, rfl, dS, O.poss A0 (Int.le_refl _) (by omega), fun G12 k12 => ?_⟩
  refine ⟨_, _, rfl, rfl, _, rfl, ?_⟩
  refine iteF ?_
  -- can_be, room 20
  have k12' := k11.trans k12
  have w12 := w10.md0 k12'
  refine ⟨_, rfl, _, rfl, q, dx, _, rfl, k12'.get0 hw10, _, rfl, q, P, r, _, rfl, w12, ?_⟩
  intro vS2 G13 k13 dS2
  have k13' := k12'.trans k13
  refine ⟨_, _, _, rfl, P, 20, _, dP10.md k13', rfl, dS2, O.poss A0 (by omega) (by omega), fun G14 k14 => ?_⟩
  refine ⟨_, _, rfl, rfl, _, rfl, ?_⟩
  refine iteF ?_
  have k14' := k13'.trans k14
  have w14 := w10.md0 k14'
  have dP14 := dP10.md k14'
  have dE14 := dE.md k14'
  have pot14 := pot10.md0 k14'
  have tkF : ∀ n, Sz P r (run P r Wr.init (es.take n)) := fun n => (ok_run (ok_init A0.lo) (canAll_take n hcan)).sz A0
  -- wide
  refine nxt ?_
  dsimp only
  refine via_ts (fun σ' H' => ∃ v8, σ' = [some (.ref p), some (.int (m : Nat)), some (.ref aP), none, some (.int r), some (.ref q), some vE, some (.bl b), v8, none, none, none, none] ∧ Md [] G14 H') (fun N hN => ?_) ?_
  · refine ⟨_, rfl, _, rfl, ?_⟩
    cases b with
    | true => exact iteF (hN _ _ ⟨_, rfl, .refl⟩)
    | false =>
      refine iteT ?_
      obtain ⟨hcw, hrw⟩ := wider hcan (hloss rfl)
      refine ⟨_, rfl, _, rfl, _, _, rfl, rfl, .inl ⟨_, rfl, _, rfl, rfl, _, _, _, rfl, P, r + 1, es, dP14, rfl, A1, dE14, by omega, hcw, fun n => (ok_run (ok_init A1.lo) (canAll_take n hcw)).sz A1, fun qw G15 nqw k15 w15 => ?_⟩⟩
      rw [hrw] at w15
      have w15' := w15
      obtain ⟨dxw, vPw, vGw, vTw, vBw, hw15, _⟩ := w15'
      refine ⟨_, rfl, _, rfl, qw, P, r + 1, _, rfl, w15, fun vT1 G16 k16 d16 => ?_⟩
      refine ⟨_, rfl, _, rfl, q, P, r, _, rfl, (w14.md0 k15).md0 k16, fun vT2 G17 k17 d17 => ?_⟩
      refine rd_ne (d16.md k17) d17 (ok_tell _) (ok_tell _) fun b hb => ⟨_, rfl, rd_if hb (fun e => absurd rfl e) (fun _ => ?_)⟩
      have k1617 := k16.trans k17
      refine ⟨_, rfl, qw, dxw, _, rfl, k1617.get0 hw15, _, rfl, qw, P, r + 1, _, rfl, w15.md0 k1617, _, rfl, _, _, rfl, rfl, rfl, _, rfl, ?_⟩
      refine rd_ifn (fun z => absurd rfl z) (fun _ => nxt (hN _ _ ⟨_, rfl, k15.trans k1617⟩))
  · rintro σ' G15 ⟨v8, rfl, k15⟩
    have w15 := w14.md0 k15
    have dP15 := dP14.md k15
    have dE15 := dE14.md k15
    have pot15 := pot14.md0 k15
    obtain ⟨aE, xE, rfl, hE, hEa, hEl⟩ := evs_inv dE15
    refine ⟨_, rfl, _, rfl, _, _, rfl, .inr hE, _, _, rfl, rfl, _, _, rfl, p, _, _, rfl, pot15, by omega, rfl, by omega, by omega, fun d G16 k16 pot16 d0 d1 => ?_⟩
    obtain ⟨c, rfl⟩ : ∃ c : Nat, d = c := ⟨d.toNat, by omega⟩
    have w16 := w15.md1 k16 npq.symm
    have dP16 := dP15.md k16
    have dE16 := dE15.md k16
    -- part
    refine ⟨_, rfl, _, rfl, _, rfl, _, rfl, _, rfl, rd_slTo (n := c) dE16 fun vE1 G17 k17 dE1 => ?_⟩
    rw [← List.map_take] at dE1
    have hct := canAll_take (n := c) hcan
    have tk2 : ∀ n, Sz P r (run P r Wr.init ((es.take c).take n)) := fun n => by rw [List.take_take]; exact tkF _
    have ltk : (es.take c).length ≤ 1000 := by rw [List.length_take]; omega
    refine ⟨_, _, _, rfl, P, r, es.take c, dP16.md k17, rfl, A0, dE1, ltk, hct, tk2, fun qp G18 nqp k18 w18 => ?_⟩
    have w18' := w18
    obtain ⟨dxp, vPp, vGp, vTp, vBp, hw18, _⟩ := w18'
    refine ⟨_, rfl, qp, dxp, _, rfl, hw18, lk_copy, _, rfl, qp, P, r, _, rfl, w18, A0, fun qr G19 nqr k19 w19 => ?_⟩
    have k1619 : Md [] G16 G19 := (k17.trans k18).trans k19
    refine ⟨_, rfl, _, rfl, _, rfl, ?_⟩
    refine rd_noPart ?_
    refine rd_slFrom (n := c) (dE16.md k1619) fun vE2 G20 k20 dE2 => ?_
    rw [← List.map_drop] at dE2
    obtain ⟨aE2, xE2, rfl, hE2, hEa2, hEl2⟩ := evs_inv dE2
    refine ⟨_, rfl, ⟨_, hE2⟩, ?_⟩
    have Oc := ok_run (ok_init A0.lo) hct
    have hcd := canAll_drop c hcan
    refine go_for (iw := 11) (iv := 12) (es := es.drop c) hE2 hEa2 (w19.md0 k20) A0 Oc hcd (fun _ => rfl) (fun _ => rfl) ⟨_, rfl⟩ fun vx G21 k21 w21 => ?_
    rw [← run_app, List.take_append_drop] at w21
    have nqrG16 : G16 qr = none := (k17.trans k18).free0 nqr
    have nrq : q ≠ qr := by
      obtain ⟨_, _, _, _, _, z, _⟩ := w16
      exact fun e => by rw [← e, z] at nqrG16; cases nqrG16
    have nrp : qp ≠ qr := fun e => by rw [← e, hw18] at nqr; cases nqr
    have k1621 : Md [] G16 G21 := ((k1619.trans k20).up0.trans k21).drop nqrG16
    have w21q := w16.md0 k1621
    have w21p := ((w18.md0 k19).md0 k20).md1 k21 nrp
    refine ⟨_, rfl, _, rfl, qr, P, r, _, rfl, w21, fun vT1 G22 k22 d22 => ?_⟩
    refine ⟨_, rfl, _, rfl, q, P, r, _, rfl, w21q.md0 k22, fun vT2 G23 k23 d23 => ?_⟩
    refine rd_ne (d22.md k23) d23 (ok_tell _) (ok_tell _) fun b hb => ⟨_, rfl, rd_if hb (fun e => absurd rfl e) (fun _ => ?_)⟩
    have k2123 := k22.trans k23
    refine ⟨_, rfl, _, rfl, qp, P, r, _, rfl, w21p.md0 k2123, fun vT3 G24 k24 d24 => ?_⟩
    have k1624 : Md [] G16 G24 := (k1621.trans k2123).trans k24
    refine ⟨_, rfl, _, rfl, _, rfl, _, rfl, _, rfl, rd_slTo (n := c) (dE16.md k1624) fun vE3 G25 k25 dE3 => ?_⟩
    rw [← List.map_take] at dE3
    refine ⟨_, _, _, rfl, P, r, es.take c, (dP16.md k1624).md k25, rfl, A0, dE3, ltk, hct, tk2, fun qx G26 nqx k26 w26 => ?_⟩
    refine ⟨_, rfl, qx, P, r, _, rfl, w26, fun vT4 G27 k27 d27 => ?_⟩
    refine rd_ne (((d24.md k25).md k26).md k27) d27 (ok_tell _) (ok_tell _) fun b hb => ⟨_, rfl, rd_if hb (fun e => absurd rfl e) (fun _ => nxt ?_)⟩
    have k1627 : Md [] G16 G27 := ((k1624.trans k25).trans k26).trans k27
    have w27 := w16.md0 k1627
    have w27' := w27
    obtain ⟨dx7, vP7, vG7, vT7, vB7, hw27, _⟩ := w27'
    -- known, got
    refine ⟨_, rfl, q, dx7, _, rfl, hw27, _, rfl, q, P, r, _, rfl, w27, ?_⟩
    refine ⟨_, rfl, q, dx7, _, rfl, hw27, _, rfl, q, P, r, _, rfl, w27, fun vg dg => ?_⟩
    obtain ⟨ag, rfl, hg⟩ := ints_inv dg
    have gk : (run P r Wr.init es).got.length = (run P r Wr.init es).known ∨ (run P r Wr.init es).got.length = (run P r Wr.init es).known + 1 := by
      rcases O.shape with h | h
      · exact .inl h.1
      · exact .inr h.1
    refine ⟨_, _, rfl, .inr hg, _, _, rfl, rfl, _, rfl, ?_⟩
    rw [List.length_map]
    refine rd_ifd (fun _ => ?_) (fun z => by omega)
    refine ⟨_, rfl, q, dx7, _, rfl, hw27, _, rfl, q, P, r, _, rfl, w27, _, _, rfl, rfl, _, _, rfl, rfl, _, rfl, ?_⟩
    refine rd_ifn (fun z => by omega) (fun _ => nxt ?_)
    -- bits
    refine ⟨_, rfl, q, dx7, _, rfl, hw27, _, rfl, q, P, r, _, rfl, w27, fun vb G28 k28 d28 => ?_⟩
    have w28 := w27.md0 k28
    have hw28 := k28.get0 hw27
    refine ⟨_, rfl, q, dx7, _, rfl, hw28, _, rfl, q, P, r, _, rfl, w28, _, _, rfl, rfl, by show (0 : Int) < 2; decide, ?_⟩
    refine ⟨_, rfl, q, dx7, _, rfl, hw28, _, rfl, q, P, r, _, rfl, w28, fun vg2 dg2 => ?_⟩
    obtain ⟨ag2, rfl, hg2⟩ := ints_inv dg2
    refine ⟨_, _, rfl, .inr hg2, _, _, rfl, rfl, by show (0 : Int) < 2; decide, sz (Nat.le_refl 2), ?_⟩
    intro pB n29
    generalize e_G29 : upd _ pB _ = G29
    have k29 : Md [] _ G29 := e_G29 ▸ Md.new n29
    have h29 : G29 pB = some _ := e_G29 ▸ upd_same
    clear e_G29
    rw [List.length_map] at h29
    refine rd_ne (e := bitsD (run P r Wr.init es)) (d28.md k29) (.tup (SqT.of h29) ?_) (ok_bits _) (ok_bits _) fun b hb => ⟨_, rfl, rd_if hb (fun e => absurd rfl e) (fun _ => nxt ?_)⟩
    · have e1 : ((((run P r Wr.init es).known : Nat) : Int) % 2) = (run P r Wr.init es).bit := by rw [O.bit]; omega
      have e2 : ((((run P r Wr.init es).got.length : Nat) : Int) % 2) = (run P r Wr.init es).waits := by rw [O.waits]; omega
      show DA _ _ [V.int (((run P r Wr.init es).known : Nat) % 2), V.int (((run P r Wr.init es).got.length : Nat) % 2)] _
      rw [e1, e2]
      exact .cons (.int _) (.cons (.int _) .nil)
    have k1629 : Md [] G16 G29 := (k1627.trans k28).trans k29
    have w29 := w16.md0 k1629
    refine ⟨_, rfl, _, rfl, _, rfl, _, _, _, rfl, p, _, q, P, r, _, rfl, pot16.md0 k1629, by omega, rfl, w29, A0, O, rfl, fun G30 k30 pot30 => ?_⟩
    refine ⟨_, rfl, iteT ?_⟩
    have k1430 : Md [p] H G30 := (((M10.trans k14'.up0).trans k15.up0).trans k16).trans (k1629.up0.trans k30)
    refine ⟨_, rfl, _, rfl, _, _, rfl, q, P, r, _, rfl, w29.md1 k30 npq.symm, A0, O, (dP16.md k1629).md k30, fun G31 k31 => ?_⟩
    exact k G31 (k1430.trans k31.up0) ((pot30.md0 k31).up (by omega))

theorem rgV_mem {m : Int} {i : Nat} {x : V} (hm : m ≤ 2) (h : (rgV 0 m)[i]? = some x) : x = .int (i : Nat) ∧ i ≤ 1 := by
  have hl := (List.getElem?_eq_some_iff.mp h).1
  rw [rgV_length] at hl
  have : i < (m - 0).toNat := hl
  unfold rgV at h
  rw [List.getElem?_map, List.getElem?_range (by omega)] at h
  have e : V.int (0 + (i : Nat)) = x := by simpa using h
  exact ⟨by rw [← e, Int.zero_add], by omega⟩

abbrev st_law : Stmt := topS 53
theorem sc_law : FnScope ["script", "place", "pot", "lap"] ["script"] (defScope st_law) := ⟨rfl, rfl, rfl, by decide +kernel, rfl, by decide +kernel, by decide +kernel⟩
theorem ok_law {P : Program} {w : World} {K : PySem.W.Frag} {mg : Str → Option Value} {base : Heap} {C aS aH aD f : Addr} {fd : FuncData} (F : Fun K "law" "law" st_law f fd) (T : Txt K mg C aS aH aD)
    (f__law_cells : Cl P w K mg base 1 "_law_cells" ["script", "most"] (sp__law_cells K C))
    (f__law_pot : Cl P w K mg base 1 "_law_pot" ["script", "place"] (sp__law_pot K C))
    (f__law_right : Cl P w K mg base 9 "_law_right" ["pot", "many"] (sp__law_right K C))
    (f__law_take : Cl P w K mg base 1 "_law_take" ["pot", "upto"] (sp__law_take K C)) : FnOk P w K mg base CX0 10 f fd ["script"] (sp_law K C) := by
  refine F.ok sc_law (fun vs H Q E h => len1 h) (fun cdv A outer s H vs Q E hr h => ?_)
  refine ⟨_, (pss_cons (ps_for PassesOwn.never rfl (pi_list (pe_cl f__law_cells hr (by decide) (by rfl) (pa_cons (pv 0) (pa_cons pe_int pa_nil)))) (pg_name (i := 1) sc_law.nd rfl (by first | exact Or.inl rfl | exact Or.inr rfl))
      (pss_cons (ps_set (i := 2) sc_law.nd rfl (by first | exact Or.inl rfl | exact Or.inr rfl) (pe_cl f__law_pot hr (by decide) (by rfl) (pa_cons (pv 0) (pa_cons (pv 1) pa_nil))))
    (pss_one (ps_if (PW.pt (pw_or (pt_not (pt_val (pe_cl f__law_right hr (by decide) (by rfl) (pa_cons (pv 2) (pa_cons pe_int pa_nil))))) (pw_or1 (pt_not (pt_val (pe_callB (cr_all rfl) (by rfl) T.b_all (by decide +kernel) (pa_cons (pe_lc (own := [("lap", 3)]) (by rfl) sc_law.nd (pi_range1 (by rfl) T.b_range (pa_cons pe_int pa_nil)) (blkOk_by (N := ["script", "place", "pot", "lap"]) (sc := defScope st_law) (own := [("lap", 3)]) (by decide +kernel)) (fun _ _ _ _ _ => (pg_name (i := 3) sc_law.nd rfl (by first | exact Or.inl rfl | exact Or.inr rfl))) (fun _ _ _ _ _ => pts_nil) (fun _ _ _ _ _ => (pe_cl f__law_right hr (by decide) (by rfl) (pa_cons (pv 2) (pa_cons (pe_op op_add pe_int (pe_cl f__law_take hr (by decide) (by rfl) (pa_cons (pv 2) (pa_cons pe_int pa_nil)))) pa_nil))))) pa_nil)))))))
      (pss_one (ps_ret pe_bl))
      pss_nil))))
    (pss_one (ps_ret pe_bl))), ?_⟩
  obtain ⟨_, rfl, a, ns, rfl, hs, hn, k⟩ := h
  refine ⟨_, rfl, _, _, rfl, a, _, rfl, hs, by rw [List.length_map]; omega, rfl, fun q G1 m nq k1 hm1 hm2 hq => ?_⟩
  refine ⟨_, rfl, ⟨_, SqL.of hq⟩, ?_⟩
  refine for_list (K := K) (a := q) (xs := rgV 0 m) (fun i σ' H' => (∃ v1 v2, σ' = [some (.ref a), v1, v2, none]) ∧ Md [] G1 H') ⟨⟨_, _, rfl⟩, .refl⟩ (fun i σ' H' _ z => z.2.sql0 (SqL.of hq)) ?_ ?_
  · rintro i x σ' H' hi ⟨⟨v1, v2, rfl⟩, m'⟩
    obtain ⟨rfl, hi1⟩ := rgV_mem hm2 hi
    refine ⟨_, rfl, _, rfl, _, _, rfl, a, ns, i, rfl, m'.sql0 (k1.sql0 hs), rfl, by omega, fun p G2 np k2 pot2 => ?_⟩
    refine ⟨_, rfl, _, _, rfl, p, 0, 200, rfl, pot2, by omega, rfl, by omega, fun G3 k3 pot3 => ?_⟩
    refine ⟨_, rfl, iteF ?_⟩
    refine ⟨3, rfl, by decide, by decide, ?_⟩
    intro D0 nD0
    have npD : p ≠ D0 := pot3.ne nD0
    have nD1 : H' D0 = none := (k2.up0.trans k3 : Md [p] H' G3).free nD0 (by simpa using npD.symm)
    refine lc_range (lo := 0) (n := 3) (fun i H5 => Md [D0, p] G3 H5 ∧ PotAt H5 p (5000 + 5001 * i) ∧ H5 D0 = some (.lst ((List.replicate i true).map V.bl))) ?_ ?_ ?_
    · exact ⟨(Md.new nD0), (pot3.md (ps := []) (Md.new nD0) (by simp)).up (by omega), upd_same⟩
    · rintro j H5 hj ⟨m5, pot5, hD⟩
      refine ⟨rfl, rd_yes ?_⟩
      refine ⟨_, rfl, _, rfl, _, _, rfl, p, 5000 + 5001 * j, 40, rfl, pot5, by omega, rfl, by decide, by decide, fun d G6 k6 pot6 d0 d1 => ?_⟩
      obtain ⟨d', rfl⟩ : ∃ d' : Nat, d = d' := ⟨d.toNat, by omega⟩
      refine ⟨_, _, rfl, rfl, _, _, rfl, p, _, 1 + d', rfl, pot6, by omega, by show V.int _ = V.int _; congr 1, by omega, fun G7 k7 pot7 => ?_⟩
      have hD7 := k7.get1 (k6.get1 hD npD.symm) npD.symm
      refine ⟨_, hD7, szl (m := 1000) (by simp; omega), ?_⟩
      generalize e_G8 : upd _ D0 _ = G8
      have k8 : Md [D0] _ G8 := e_G8 ▸ Md.mut hD7 trivial
      have h8 : G8 D0 = some _ := e_G8 ▸ upd_same
      clear e_G8
      refine ⟨((m5.trans (k6.up (by simp))).trans (k7.up (by simp))).trans (k8.up (by simp)), (pot7.md k8 (by simpa using npD)).up (by omega), ?_⟩
      rw [h8, List.replicate_succ', List.map_append]
      rfl
    · rintro H5 ⟨m5, pot5, hD⟩
      refine ⟨D0, List.replicate 3 true, rfl, SqL.of hD, _, rfl, ?_⟩
      refine ⟨⟨_, _, rfl⟩, m'.trans ?_⟩
      have M : Md [D0, p] H' H5 := ((k2.up0.trans k3).up (by simp)).trans m5
      exact (M.drop nD1).drop np
  · rintro σ' H' ⟨⟨v1, v2, rfl⟩, m'⟩
    exact k H'
end Dh

namespace Dh
open PySem PySem.Spec PyProof.Rows L2 He
/-! ### the head: what the top leaves, by names -/
def cW (K : PySem.W.Frag) : Addr := ga K "Wire"
def gp (m : Str) (K : PySem.W.Frag) : Addr := match PySem.W.recIn K (ma K (cW K) m) "property" with
  | some (.ref g :: _) => g
  | _ => 0
def prB (K : PySem.W.Frag) (m : Str) : Bool := eqO (PySem.W.findIn K (.ref (cW K)) m) (some (some (.ref (ma K (cW K) m)))) && (eqO (PySem.W.specialIn K (.ref (ma K (cW K) m)) "__get__") (some (some (.builtin "property.__get__"))) &&
  (decide (PySem.W.takesIn K (.ref (ma K (cW K) m)) = some true) && (match PySem.W.recIn K (ma K (cW K) m) "property" with
    | some (.ref _ :: _) => true
    | _ => false)))
theorem prB_ok {K : PySem.W.Frag} {m : Str} (h : prB K m = true) : PropOf K (cW K) m (ma K (cW K) m) (gp m K) := by
  obtain ⟨h1, h⟩ := ba h
  obtain ⟨h2, h⟩ := ba h
  obtain ⟨h3, h4⟩ := ba h
  refine ⟨eqO_ok h1, eqO_ok h2, of_decide_eq_true h3, ?_⟩
  unfold gp
  revert h4
  cases e : PySem.W.recIn K (ma K (cW K) m) "property" with
  | none => intro h4; cases h4
  | some l =>
    cases l with
    | nil => intro h4; cases h4
    | cons v l =>
      cases v with
      | ref g => intro _; exact ⟨l, rfl⟩
      | _ => intro h4; cases h4
def hd_is_integer : He5.DefA := ⟨fun K => ga K "is_integer", "is_integer", "is_integer", defArgs st_is_integer, defBody st_is_integer, defScope st_is_integer, [], []⟩
def hd_is_within : He5.DefA := ⟨fun K => ga K "is_within", "is_within", "is_within", defArgs st_is_within, defBody st_is_within, defScope st_is_within, [], []⟩
def hd_is_row : He5.DefA := ⟨fun K => ga K "is_row", "is_row", "is_row", defArgs st_is_row, defBody st_is_row, defScope st_is_row, [], []⟩
def hd_is_letter : He5.DefA := ⟨fun K => ga K "is_letter", "is_letter", "is_letter", defArgs st_is_letter, defBody st_is_letter, defScope st_is_letter, [], []⟩
def hd_changed_at : He5.DefA := ⟨fun K => ga K "changed_at", "changed_at", "changed_at", defArgs st_changed_at, defBody st_changed_at, defScope st_changed_at, [], []⟩
def hd_are_letters : He5.DefA := ⟨fun K => ga K "are_letters", "are_letters", "are_letters", defArgs st_are_letters, defBody st_are_letters, defScope st_are_letters, [], []⟩
def hd_is_ahead : He5.DefA := ⟨fun K => ga K "is_ahead", "is_ahead", "is_ahead", defArgs st_is_ahead, defBody st_is_ahead, defScope st_is_ahead, [], []⟩
def hd_is_behind : He5.DefA := ⟨fun K => ga K "is_behind", "is_behind", "is_behind", defArgs st_is_behind, defBody st_is_behind, defScope st_is_behind, [], []⟩
def hd_is_possible : He5.DefA := ⟨fun K => ga K "is_possible", "is_possible", "is_possible", defArgs st_is_possible, defBody st_is_possible, defScope st_is_possible, [], []⟩
def hd_check_packets : He5.DefA := ⟨fun K => ga K "check_packets", "check_packets", "check_packets", defArgs st_check_packets, defBody st_check_packets, defScope st_check_packets, [], []⟩
def hd_check_room : He5.DefA := ⟨fun K => ga K "check_room", "check_room", "check_room", defArgs st_check_room, defBody st_check_room, defScope st_check_room, [], []⟩
def hd_Wire___init__ : He5.DefA := ⟨fun K => ma K (cW K) "__init__", "__init__", "Wire.__init__", defArgs st_Wire___init__, defBody st_Wire___init__, defScope st_Wire___init__, [], []⟩
def hd_Wire_packets : He5.DefA := ⟨fun K => gp "packets" K, "packets", "Wire.packets", defArgs st_Wire_packets, defBody st_Wire_packets, defScope st_Wire_packets, [], []⟩
def hd_Wire_room : He5.DefA := ⟨fun K => gp "room" K, "room", "Wire.room", defArgs st_Wire_room, defBody st_Wire_room, defScope st_Wire_room, [], []⟩
def hd_Wire_known : He5.DefA := ⟨fun K => gp "known" K, "known", "Wire.known", defArgs st_Wire_known, defBody st_Wire_known, defScope st_Wire_known, [], []⟩
def hd_Wire_got : He5.DefA := ⟨fun K => gp "got" K, "got", "Wire.got", defArgs st_Wire_got, defBody st_Wire_got, defScope st_Wire_got, [], []⟩
def hd_Wire_bits : He5.DefA := ⟨fun K => gp "bits" K, "bits", "Wire.bits", defArgs st_Wire_bits, defBody st_Wire_bits, defScope st_Wire_bits, [], []⟩
def hd_Wire_letters : He5.DefA := ⟨fun K => gp "letters" K, "letters", "Wire.letters", defArgs st_Wire_letters, defBody st_Wire_letters, defScope st_Wire_letters, [], []⟩
def hd_Wire_answers : He5.DefA := ⟨fun K => gp "answers" K, "answers", "Wire.answers", defArgs st_Wire_answers, defBody st_Wire_answers, defScope st_Wire_answers, [], []⟩
def hd_Wire_standing : He5.DefA := ⟨fun K => gp "standing" K, "standing", "Wire.standing", defArgs st_Wire_standing, defBody st_Wire_standing, defScope st_Wire_standing, [], []⟩
def hd_Wire_go_on : He5.DefA := ⟨fun K => ma K (cW K) "go_on", "go_on", "Wire.go_on", defArgs st_Wire_go_on, defBody st_Wire_go_on, defScope st_Wire_go_on, [], []⟩
def hd_Wire_done : He5.DefA := ⟨fun K => ma K (cW K) "done", "done", "Wire.done", defArgs st_Wire_done, defBody st_Wire_done, defScope st_Wire_done, [], []⟩
def hd_Wire_do_hear : He5.DefA := ⟨fun K => ma K (cW K) "do_hear", "do_hear", "Wire.do_hear", defArgs st_Wire_do_hear, defBody st_Wire_do_hear, defScope st_Wire_do_hear, [], []⟩
def hd_Wire_do_heard : He5.DefA := ⟨fun K => ma K (cW K) "do_heard", "do_heard", "Wire.do_heard", defArgs st_Wire_do_heard, defBody st_Wire_do_heard, defScope st_Wire_do_heard, [], []⟩
def hd_Wire_copy : He5.DefA := ⟨fun K => ma K (cW K) "copy", "copy", "Wire.copy", defArgs st_Wire_copy, defBody st_Wire_copy, defScope st_Wire_copy, [], []⟩
def hd_placed : He5.DefA := ⟨fun K => ga K "placed", "placed", "placed", defArgs st_placed, defBody st_placed, defScope st_placed, [], []⟩
def hd_can_come : He5.DefA := ⟨fun K => ga K "can_come", "can_come", "can_come", defArgs st_can_come, defBody st_can_come, defScope st_can_come, [], []⟩
def hd_can_place : He5.DefA := ⟨fun K => ga K "can_place", "can_place", "can_place", defArgs st_can_place, defBody st_can_place, defScope st_can_place, [], []⟩
def hd_events_now : He5.DefA := ⟨fun K => ga K "events_now", "events_now", "events_now", defArgs st_events_now, defBody st_events_now, defScope st_events_now, [], []⟩
def hd_played_wire : He5.DefA := ⟨fun K => ga K "played_wire", "played_wire", "played_wire", defArgs st_played_wire, defBody st_played_wire, defScope st_played_wire, [], []⟩
def hd_can_be : He5.DefA := ⟨fun K => ga K "can_be", "can_be", "can_be", defArgs st_can_be, defBody st_can_be, defScope st_can_be, [], []⟩
def hd_calm_round : He5.DefA := ⟨fun K => ga K "calm_round", "calm_round", "calm_round", defArgs st_calm_round, defBody st_calm_round, defScope st_calm_round, [], []⟩
def hd__law_pot : He5.DefA := ⟨fun K => ga K "_law_pot", "_law_pot", "_law_pot", defArgs st__law_pot, defBody st__law_pot, defScope st__law_pot, [], []⟩
def hd__law_take : He5.DefA := ⟨fun K => ga K "_law_take", "_law_take", "_law_take", defArgs st__law_take, defBody st__law_take, defScope st__law_take, [], []⟩
def hd__law_of : He5.DefA := ⟨fun K => ga K "_law_of", "_law_of", "_law_of", defArgs st__law_of, defBody st__law_of, defScope st__law_of, [], []⟩
def hd__law_some : He5.DefA := ⟨fun K => ga K "_law_some", "_law_some", "_law_some", defArgs st__law_some, defBody st__law_some, defScope st__law_some, [], []⟩
def hd__law_cells : He5.DefA := ⟨fun K => ga K "_law_cells", "_law_cells", "_law_cells", defArgs st__law_cells, defBody st__law_cells, defScope st__law_cells, [], []⟩
def hd__law_going : He5.DefA := ⟨fun K => ga K "_law_going", "_law_going", "_law_going", defArgs st__law_going, defBody st__law_going, defScope st__law_going, [], []⟩
def hd__law_tells : He5.DefA := ⟨fun K => ga K "_law_tells", "_law_tells", "_law_tells", defArgs st__law_tells, defBody st__law_tells, defScope st__law_tells, [], []⟩
def hd__law_are_changes_right : He5.DefA := ⟨fun K => ga K "_law_are_changes_right", "_law_are_changes_right", "_law_are_changes_right", defArgs st__law_are_changes_right, defBody st__law_are_changes_right, defScope st__law_are_changes_right, [], []⟩
def hd__law_is_emptied_right : He5.DefA := ⟨fun K => ga K "_law_is_emptied_right", "_law_is_emptied_right", "_law_is_emptied_right", defArgs st__law_is_emptied_right, defBody st__law_is_emptied_right, defScope st__law_is_emptied_right, [], []⟩
def hd__law_right : He5.DefA := ⟨fun K => ga K "_law_right", "_law_right", "_law_right", defArgs st__law_right, defBody st__law_right, defScope st__law_right, [], []⟩
def hd_law : He5.DefA := ⟨fun K => ga K "law", "law", "law", defArgs st_law, defBody st_law, defScope st_law, [], []⟩
def hfn0 : List He5.DefA := [hd_is_integer, hd_is_within, hd_is_row, hd_is_letter, hd_changed_at, hd_are_letters, hd_is_ahead, hd_is_behind, hd_is_possible, hd_check_packets, hd_check_room, hd_Wire___init__, hd_Wire_packets, hd_Wire_room, hd_Wire_known, hd_Wire_got, hd_Wire_bits, hd_Wire_letters, hd_Wire_answers, hd_Wire_standing]
def hfn1 : List He5.DefA := [hd_Wire_go_on, hd_Wire_done, hd_Wire_do_hear, hd_Wire_do_heard, hd_Wire_copy, hd_placed, hd_can_come, hd_can_place, hd_events_now, hd_played_wire, hd_can_be, hd_calm_round, hd__law_pot, hd__law_take, hd__law_of, hd__law_some, hd__law_cells, hd__law_going, hd__law_tells, hd__law_are_changes_right]
def hfn2 : List He5.DefA := [hd__law_is_emptied_right, hd__law_right, hd_law]
def hfn : List He5.DefA := hfn0 ++ hfn1 ++ hfn2
def hfa0 : List He.Fa := [.glo "is_integer", .glo "is_within", .glo "is_row", .glo "is_letter", .glo "changed_at", .glo "are_letters", .glo "is_ahead", .glo "is_behind", .glo "is_possible", .glo "check_packets", .glo "check_room", .glo "placed", .glo "can_come", .glo "can_place", .glo "events_now", .glo "played_wire", .glo "can_be", .glo "calm_round", .glo "_law_pot", .glo "_law_take"]
def hfa1 : List He.Fa := [.glo "_law_of", .glo "_law_some", .glo "_law_cells", .glo "_law_going", .glo "_law_tells", .glo "_law_are_changes_right", .glo "_law_is_emptied_right", .glo "_law_right", .glo "law", .glo "Wire", .cls "Wire", .mkr "Wire", .glo "SAY", .glo "HEAR", .glo "HEARD", .int "PAIR" 2, .int "MOST_PACKETS" 100, .int "MOST_PACKET" 1000000, .int "MOST_ROOM" 20, .int "MOST_EVENTS" 1000]
def hfa2 : List He.Fa := [.int "PLACED_PARTS" 3, .str "LOSE" "lose", .str "DOUBLE" "double", .str "BACK" "back", .str "THERE" "there", .free "len", .free "isinstance", .free "all", .free "min", .free "max", .free "sum", .free "abs", .free "sorted", .free "str", .free "int", .free "bool", .free "tuple", .free "list", .free "range", .free "enumerate"]
def hfa3 : List He.Fa := [.noat "Wire" "own_packets", .noat "Wire" "own_room", .noat "Wire" "own_known", .noat "Wire" "own_got", .noat "Wire" "own_bit", .noat "Wire" "own_waits", .noat "Wire" "own_there", .noat "Wire" "own_back", .meth "Wire" "go_on", .meth "Wire" "done", .meth "Wire" "do_hear", .meth "Wire" "do_heard", .meth "Wire" "copy"]
def hfa : List He.Fa := hfa0 ++ hfa1 ++ hfa2 ++ hfa3
def hex (K : PySem.W.Frag) : Bool := ((["packets", "room", "known", "got", "bits", "letters", "answers", "standing"] : List Str).all fun m => prB K m) && tupB K "SAY" [.str "say"] && tupB K "HEAR" [.str "hear"] && tupB K "HEARD" [.str "heard"]
abbrev HA : Type := He.AlD × Bool
def hObs (g : Addr → Option Obj) : HA := (He5.obsA hfa hfn (frG g (He5.asA g 6)), hex (frG g (He5.asA g 6)))
structure HSays (K : PySem.W.Frag) : Prop where
  a : He5.SaysA hfa hfn K
  e : hex K = true
def hHook : PySem.W.Hook where
  α := HA
  obs := fun s => hObs s.heap.get?
  val := fun _ => (He5.valA hfn, true)
  says := fun _ h => ∃ K : PySem.W.Frag, K.In h ∧ HSays K
  of := fun _ _ e => ⟨_, frG_in, congrArg (fun z : HA => z.1) e, congrArg (fun z : HA => z.2) e⟩
  keeps := fun _ _ _ ⟨K, hK, c⟩ k => ⟨K, PySem.W.Frag.In.keeps hK k, c⟩
def hOb (s : PySem.W.SharedT) : HA := hObs (HandSHeadRun.getT s)
theorem hOb_eq (s : PySem.W.SharedT) : hOb s = hHook.obs s.abs := by
  have e : HandSHeadRun.getT s = s.abs.heap.get? := funext (HandSHeadRun.getT_eq s)
  unfold hOb
  rw [e]
  rfl
abbrev hR : PySem.W.OpenRow := PySem.W.OpenLaw.row PySem.Challenge.rw_downhillnet_k12_whole_wires_lost_and_dou
def hnm0 : List PySem.Str := ["_wall", "NetError", "BadNumber", "BadPackets", "BadEvent", "BadEvents", "is_integer", "is_within", "PAIR", "SAY", "HEAR", "HEARD", "LOSE", "DOUBLE", "BACK", "is_row", "is_letter", "changed_at", "are_letters", "is_ahead"]
def hnm1 : List PySem.Str := ["is_behind", "is_possible", "MOST_PACKETS", "MOST_PACKET", "MOST_ROOM", "MOST_EVENTS", "THERE", "PLACED_PARTS", "check_packets", "check_room", "Wire", "placed", "can_come", "can_place", "events_now", "played_wire", "can_be", "calm_round", "_law_pot", "_law_take"]
def hnm2 : List PySem.Str := ["_law_of", "_law_some", "_law_cells", "_law_going", "_law_tells", "_law_are_changes_right", "_law_is_emptied_right", "_law_right"]
def hnm : List PySem.Str := hnm0 ++ hnm1 ++ hnm2
theorem hRun (w : World) : HandSHeadRun.RunEq hR (PySem.W.view hR.prog [53]) hHook hOb 20000 hnm w := by
  intro os
  kernel_rfl
theorem hFacts {P : Program} {w : World} {K : PySem.W.Frag} {h : Heap} {mg : Str → Option Value} {f : Addr} (X : K.In h) (G : h.Ns mainGlobals mg) (hfa0 : mg ("law" : Str) = some (.ref f)) (c : HSays K) :
    ∃ fd : FuncData, (∀ (s : Shared) (v : Value), BindsTo s fd ⟨[v], []⟩ [("script", v)]) ∧ ∀ base : Heap, K.In base → base.Ns mainGlobals mg → FnOk P w K mg base CX0 10 f fd ["script"] (sp_law K (cW K)) := by
  have int_ : ∀ {x : Str} {i : Int}, (Fa.int x i).ok K = true → ∃ u, mg x = some u ∧ RelV (.int i) u := fun z => by
    obtain ⟨t, e⟩ := int_ok X G z
    exact ⟨_, e, ⟨t, rfl⟩⟩
  have str_ : ∀ {x z : Str}, (Fa.str x z).ok K = true → ∃ u, mg x = some u ∧ RelV (.str z) u := fun z => by
    obtain ⟨t, e⟩ := str_ok X G z
    exact ⟨_, e, ⟨t, rfl⟩⟩
  have glo_ : ∀ {x : Str}, (Fa.glo x).ok K = true → ∃ u, mg x = some u ∧ RelV (.ref (ga K x)) u := fun z => ⟨_, glo_ok X G z, rfl⟩
  have ex0 : (((["packets", "room", "known", "got", "bits", "letters", "answers", "standing"] : List Str).all fun m => prB K m) && tupB K "SAY" [.str "say"] && tupB K "HEAR" [.str "hear"] && tupB K "HEARD" [.str "heard"]) = true := c.e
  obtain ⟨ex1, exHEARD⟩ := ba ex0
  obtain ⟨ex2, exHEAR⟩ := ba ex1
  obtain ⟨exP, exSAY⟩ := ba ex2
  have prF : ∀ m ∈ (["packets", "room", "known", "got", "bits", "letters", "answers", "standing"] : List Str), prB K m = true := List.all_eq_true.mp exP
  have T : Txt K mg (cW K) (ga K "SAY") (ga K "HEAR") (ga K "HEARD") := {
    cl := cls_ok (c.a.fact 30 (f := .cls "Wire") rfl)
    n_own_packets := noat_ok (c.a.fact 60 (f := .noat "Wire" "own_packets") rfl)
    n_own_room := noat_ok (c.a.fact 61 (f := .noat "Wire" "own_room") rfl)
    n_own_known := noat_ok (c.a.fact 62 (f := .noat "Wire" "own_known") rfl)
    n_own_got := noat_ok (c.a.fact 63 (f := .noat "Wire" "own_got") rfl)
    n_own_bit := noat_ok (c.a.fact 64 (f := .noat "Wire" "own_bit") rfl)
    n_own_waits := noat_ok (c.a.fact 65 (f := .noat "Wire" "own_waits") rfl)
    n_own_there := noat_ok (c.a.fact 66 (f := .noat "Wire" "own_there") rfl)
    n_own_back := noat_ok (c.a.fact 67 (f := .noat "Wire" "own_back") rfl)
    b_len := free_ok X G (c.a.fact 45 (f := .free "len") rfl)
    b_isinstance := free_ok X G (c.a.fact 46 (f := .free "isinstance") rfl)
    b_all := free_ok X G (c.a.fact 47 (f := .free "all") rfl)
    b_min := free_ok X G (c.a.fact 48 (f := .free "min") rfl)
    b_max := free_ok X G (c.a.fact 49 (f := .free "max") rfl)
    b_sum := free_ok X G (c.a.fact 50 (f := .free "sum") rfl)
    b_abs := free_ok X G (c.a.fact 51 (f := .free "abs") rfl)
    b_sorted := free_ok X G (c.a.fact 52 (f := .free "sorted") rfl)
    b_str := free_ok X G (c.a.fact 53 (f := .free "str") rfl)
    b_int := free_ok X G (c.a.fact 54 (f := .free "int") rfl)
    b_bool := free_ok X G (c.a.fact 55 (f := .free "bool") rfl)
    b_tuple := free_ok X G (c.a.fact 56 (f := .free "tuple") rfl)
    b_list := free_ok X G (c.a.fact 57 (f := .free "list") rfl)
    b_range := free_ok X G (c.a.fact 58 (f := .free "range") rfl)
    b_enumerate := free_ok X G (c.a.fact 59 (f := .free "enumerate") rfl)
    c_PAIR := int_ (c.a.fact 35 (f := .int "PAIR" 2) rfl)
    c_MOST_PACKETS := int_ (c.a.fact 36 (f := .int "MOST_PACKETS" 100) rfl)
    c_MOST_PACKET := int_ (c.a.fact 37 (f := .int "MOST_PACKET" 1000000) rfl)
    c_MOST_ROOM := int_ (c.a.fact 38 (f := .int "MOST_ROOM" 20) rfl)
    c_MOST_EVENTS := int_ (c.a.fact 39 (f := .int "MOST_EVENTS" 1000) rfl)
    c_PLACED_PARTS := int_ (c.a.fact 40 (f := .int "PLACED_PARTS" 3) rfl)
    c_LOSE := str_ (c.a.fact 41 (f := .str "LOSE" "lose") rfl)
    c_DOUBLE := str_ (c.a.fact 42 (f := .str "DOUBLE" "double") rfl)
    c_BACK := str_ (c.a.fact 43 (f := .str "BACK" "back") rfl)
    c_THERE := str_ (c.a.fact 44 (f := .str "THERE" "there") rfl)
    c_SAY := glo_ (c.a.fact 32 (f := .glo "SAY") rfl)
    s_SAY := fun H => tupB_ok exSAY H
    c_HEAR := glo_ (c.a.fact 33 (f := .glo "HEAR") rfl)
    s_HEAR := fun H => tupB_ok exHEAR H
    c_HEARD := glo_ (c.a.fact 34 (f := .glo "HEARD") rfl)
    s_HEARD := fun H => tupB_ok exHEARD H
  }
  have MK := mkr_ok (c.a.fact 31 (f := .mkr "Wire") rfl)
  obtain ⟨fd_is_integer, FD_is_integer⟩ := c.a.def_ 0 (d := hd_is_integer) rfl
  have F_is_integer : Fun K "is_integer" "is_integer" st_is_integer (ga K "is_integer") fd_is_integer := He5.fun_of FD_is_integer
  obtain ⟨fd_is_within, FD_is_within⟩ := c.a.def_ 1 (d := hd_is_within) rfl
  have F_is_within : Fun K "is_within" "is_within" st_is_within (ga K "is_within") fd_is_within := He5.fun_of FD_is_within
  obtain ⟨fd_is_row, FD_is_row⟩ := c.a.def_ 2 (d := hd_is_row) rfl
  have F_is_row : Fun K "is_row" "is_row" st_is_row (ga K "is_row") fd_is_row := He5.fun_of FD_is_row
  obtain ⟨fd_is_letter, FD_is_letter⟩ := c.a.def_ 3 (d := hd_is_letter) rfl
  have F_is_letter : Fun K "is_letter" "is_letter" st_is_letter (ga K "is_letter") fd_is_letter := He5.fun_of FD_is_letter
  obtain ⟨fd_changed_at, FD_changed_at⟩ := c.a.def_ 4 (d := hd_changed_at) rfl
  have F_changed_at : Fun K "changed_at" "changed_at" st_changed_at (ga K "changed_at") fd_changed_at := He5.fun_of FD_changed_at
  obtain ⟨fd_are_letters, FD_are_letters⟩ := c.a.def_ 5 (d := hd_are_letters) rfl
  have F_are_letters : Fun K "are_letters" "are_letters" st_are_letters (ga K "are_letters") fd_are_letters := He5.fun_of FD_are_letters
  obtain ⟨fd_is_ahead, FD_is_ahead⟩ := c.a.def_ 6 (d := hd_is_ahead) rfl
  have F_is_ahead : Fun K "is_ahead" "is_ahead" st_is_ahead (ga K "is_ahead") fd_is_ahead := He5.fun_of FD_is_ahead
  obtain ⟨fd_is_behind, FD_is_behind⟩ := c.a.def_ 7 (d := hd_is_behind) rfl
  have F_is_behind : Fun K "is_behind" "is_behind" st_is_behind (ga K "is_behind") fd_is_behind := He5.fun_of FD_is_behind
  obtain ⟨fd_is_possible, FD_is_possible⟩ := c.a.def_ 8 (d := hd_is_possible) rfl
  have F_is_possible : Fun K "is_possible" "is_possible" st_is_possible (ga K "is_possible") fd_is_possible := He5.fun_of FD_is_possible
  obtain ⟨fd_check_packets, FD_check_packets⟩ := c.a.def_ 9 (d := hd_check_packets) rfl
  have F_check_packets : Fun K "check_packets" "check_packets" st_check_packets (ga K "check_packets") fd_check_packets := He5.fun_of FD_check_packets
  obtain ⟨fd_check_room, FD_check_room⟩ := c.a.def_ 10 (d := hd_check_room) rfl
  have F_check_room : Fun K "check_room" "check_room" st_check_room (ga K "check_room") fd_check_room := He5.fun_of FD_check_room
  obtain ⟨fd_Wire___init__, FD_Wire___init__⟩ := c.a.def_ 11 (d := hd_Wire___init__) rfl
  have F_Wire___init__ : Fun K "__init__" "Wire.__init__" st_Wire___init__ (ma K (cW K) "__init__") fd_Wire___init__ := He5.fun_of FD_Wire___init__
  obtain ⟨fd_Wire_packets, FD_Wire_packets⟩ := c.a.def_ 12 (d := hd_Wire_packets) rfl
  have F_Wire_packets : Fun K "packets" "Wire.packets" st_Wire_packets (gp "packets" K) fd_Wire_packets := He5.fun_of FD_Wire_packets
  obtain ⟨fd_Wire_room, FD_Wire_room⟩ := c.a.def_ 13 (d := hd_Wire_room) rfl
  have F_Wire_room : Fun K "room" "Wire.room" st_Wire_room (gp "room" K) fd_Wire_room := He5.fun_of FD_Wire_room
  obtain ⟨fd_Wire_known, FD_Wire_known⟩ := c.a.def_ 14 (d := hd_Wire_known) rfl
  have F_Wire_known : Fun K "known" "Wire.known" st_Wire_known (gp "known" K) fd_Wire_known := He5.fun_of FD_Wire_known
  obtain ⟨fd_Wire_got, FD_Wire_got⟩ := c.a.def_ 15 (d := hd_Wire_got) rfl
  have F_Wire_got : Fun K "got" "Wire.got" st_Wire_got (gp "got" K) fd_Wire_got := He5.fun_of FD_Wire_got
  obtain ⟨fd_Wire_bits, FD_Wire_bits⟩ := c.a.def_ 16 (d := hd_Wire_bits) rfl
  have F_Wire_bits : Fun K "bits" "Wire.bits" st_Wire_bits (gp "bits" K) fd_Wire_bits := He5.fun_of FD_Wire_bits
  obtain ⟨fd_Wire_letters, FD_Wire_letters⟩ := c.a.def_ 17 (d := hd_Wire_letters) rfl
  have F_Wire_letters : Fun K "letters" "Wire.letters" st_Wire_letters (gp "letters" K) fd_Wire_letters := He5.fun_of FD_Wire_letters
  obtain ⟨fd_Wire_answers, FD_Wire_answers⟩ := c.a.def_ 18 (d := hd_Wire_answers) rfl
  have F_Wire_answers : Fun K "answers" "Wire.answers" st_Wire_answers (gp "answers" K) fd_Wire_answers := He5.fun_of FD_Wire_answers
  obtain ⟨fd_Wire_standing, FD_Wire_standing⟩ := c.a.def_ 19 (d := hd_Wire_standing) rfl
  have F_Wire_standing : Fun K "standing" "Wire.standing" st_Wire_standing (gp "standing" K) fd_Wire_standing := He5.fun_of FD_Wire_standing
  obtain ⟨fd_Wire_go_on, FD_Wire_go_on⟩ := c.a.def_ 20 (d := hd_Wire_go_on) rfl
  have F_Wire_go_on : Fun K "go_on" "Wire.go_on" st_Wire_go_on (ma K (cW K) "go_on") fd_Wire_go_on := He5.fun_of FD_Wire_go_on
  obtain ⟨fd_Wire_done, FD_Wire_done⟩ := c.a.def_ 21 (d := hd_Wire_done) rfl
  have F_Wire_done : Fun K "done" "Wire.done" st_Wire_done (ma K (cW K) "done") fd_Wire_done := He5.fun_of FD_Wire_done
  obtain ⟨fd_Wire_do_hear, FD_Wire_do_hear⟩ := c.a.def_ 22 (d := hd_Wire_do_hear) rfl
  have F_Wire_do_hear : Fun K "do_hear" "Wire.do_hear" st_Wire_do_hear (ma K (cW K) "do_hear") fd_Wire_do_hear := He5.fun_of FD_Wire_do_hear
  obtain ⟨fd_Wire_do_heard, FD_Wire_do_heard⟩ := c.a.def_ 23 (d := hd_Wire_do_heard) rfl
  have F_Wire_do_heard : Fun K "do_heard" "Wire.do_heard" st_Wire_do_heard (ma K (cW K) "do_heard") fd_Wire_do_heard := He5.fun_of FD_Wire_do_heard
  obtain ⟨fd_Wire_copy, FD_Wire_copy⟩ := c.a.def_ 24 (d := hd_Wire_copy) rfl
  have F_Wire_copy : Fun K "copy" "Wire.copy" st_Wire_copy (ma K (cW K) "copy") fd_Wire_copy := He5.fun_of FD_Wire_copy
  obtain ⟨fd_placed, FD_placed⟩ := c.a.def_ 25 (d := hd_placed) rfl
  have F_placed : Fun K "placed" "placed" st_placed (ga K "placed") fd_placed := He5.fun_of FD_placed
  obtain ⟨fd_can_come, FD_can_come⟩ := c.a.def_ 26 (d := hd_can_come) rfl
  have F_can_come : Fun K "can_come" "can_come" st_can_come (ga K "can_come") fd_can_come := He5.fun_of FD_can_come
  obtain ⟨fd_can_place, FD_can_place⟩ := c.a.def_ 27 (d := hd_can_place) rfl
  have F_can_place : Fun K "can_place" "can_place" st_can_place (ga K "can_place") fd_can_place := He5.fun_of FD_can_place
  obtain ⟨fd_events_now, FD_events_now⟩ := c.a.def_ 28 (d := hd_events_now) rfl
  have F_events_now : Fun K "events_now" "events_now" st_events_now (ga K "events_now") fd_events_now := He5.fun_of FD_events_now
  obtain ⟨fd_played_wire, FD_played_wire⟩ := c.a.def_ 29 (d := hd_played_wire) rfl
  have F_played_wire : Fun K "played_wire" "played_wire" st_played_wire (ga K "played_wire") fd_played_wire := He5.fun_of FD_played_wire
  obtain ⟨fd_can_be, FD_can_be⟩ := c.a.def_ 30 (d := hd_can_be) rfl
  have F_can_be : Fun K "can_be" "can_be" st_can_be (ga K "can_be") fd_can_be := He5.fun_of FD_can_be
  obtain ⟨fd_calm_round, FD_calm_round⟩ := c.a.def_ 31 (d := hd_calm_round) rfl
  have F_calm_round : Fun K "calm_round" "calm_round" st_calm_round (ga K "calm_round") fd_calm_round := He5.fun_of FD_calm_round
  obtain ⟨fd__law_pot, FD__law_pot⟩ := c.a.def_ 32 (d := hd__law_pot) rfl
  have F__law_pot : Fun K "_law_pot" "_law_pot" st__law_pot (ga K "_law_pot") fd__law_pot := He5.fun_of FD__law_pot
  obtain ⟨fd__law_take, FD__law_take⟩ := c.a.def_ 33 (d := hd__law_take) rfl
  have F__law_take : Fun K "_law_take" "_law_take" st__law_take (ga K "_law_take") fd__law_take := He5.fun_of FD__law_take
  obtain ⟨fd__law_of, FD__law_of⟩ := c.a.def_ 34 (d := hd__law_of) rfl
  have F__law_of : Fun K "_law_of" "_law_of" st__law_of (ga K "_law_of") fd__law_of := He5.fun_of FD__law_of
  obtain ⟨fd__law_some, FD__law_some⟩ := c.a.def_ 35 (d := hd__law_some) rfl
  have F__law_some : Fun K "_law_some" "_law_some" st__law_some (ga K "_law_some") fd__law_some := He5.fun_of FD__law_some
  obtain ⟨fd__law_cells, FD__law_cells⟩ := c.a.def_ 36 (d := hd__law_cells) rfl
  have F__law_cells : Fun K "_law_cells" "_law_cells" st__law_cells (ga K "_law_cells") fd__law_cells := He5.fun_of FD__law_cells
  obtain ⟨fd__law_going, FD__law_going⟩ := c.a.def_ 37 (d := hd__law_going) rfl
  have F__law_going : Fun K "_law_going" "_law_going" st__law_going (ga K "_law_going") fd__law_going := He5.fun_of FD__law_going
  obtain ⟨fd__law_tells, FD__law_tells⟩ := c.a.def_ 38 (d := hd__law_tells) rfl
  have F__law_tells : Fun K "_law_tells" "_law_tells" st__law_tells (ga K "_law_tells") fd__law_tells := He5.fun_of FD__law_tells
  obtain ⟨fd__law_are_changes_right, FD__law_are_changes_right⟩ := c.a.def_ 39 (d := hd__law_are_changes_right) rfl
  have F__law_are_changes_right : Fun K "_law_are_changes_right" "_law_are_changes_right" st__law_are_changes_right (ga K "_law_are_changes_right") fd__law_are_changes_right := He5.fun_of FD__law_are_changes_right
  obtain ⟨fd__law_is_emptied_right, FD__law_is_emptied_right⟩ := c.a.def_ 40 (d := hd__law_is_emptied_right) rfl
  have F__law_is_emptied_right : Fun K "_law_is_emptied_right" "_law_is_emptied_right" st__law_is_emptied_right (ga K "_law_is_emptied_right") fd__law_is_emptied_right := He5.fun_of FD__law_is_emptied_right
  obtain ⟨fd__law_right, FD__law_right⟩ := c.a.def_ 41 (d := hd__law_right) rfl
  have F__law_right : Fun K "_law_right" "_law_right" st__law_right (ga K "_law_right") fd__law_right := He5.fun_of FD__law_right
  obtain ⟨fd_law, FD_law⟩ := c.a.def_ 42 (d := hd_law) rfl
  have F_law : Fun K "law" "law" st_law (ga K "law") fd_law := He5.fun_of FD_law
  have B_is_integer : ∀ base, Cl P w K mg base 1 "is_integer" ["value"] (sp_is_integer K (cW K)) := fun base => ⟨_, fd_is_integer, ok_is_integer F_is_integer T , glo_ok X G (c.a.fact 0 (f := .glo "is_integer") rfl), F_is_integer.kp, (F_is_integer.binds (ps := ["value"]) fun _ _ _ _ _ _ us hl => match us, hl with | [_], _ => rfl), (fun_kb F_is_integer 0 ["value"] fun _ _ _ _ _ _ us ws l1 l2 => match us, l1, ws, l2 with | [], _, [_], _ => rfl)⟩
  have B_is_within : ∀ base, Cl P w K mg base 2 "is_within" ["value", "least", "most"] (sp_is_within K (cW K)) := fun base => ⟨_, fd_is_within, ok_is_within F_is_within T (B_is_integer base), glo_ok X G (c.a.fact 1 (f := .glo "is_within") rfl), F_is_within.kp, (F_is_within.binds (ps := ["value", "least", "most"]) fun _ _ _ _ _ _ us hl => match us, hl with | [_, _, _], _ => rfl), (fun_kb F_is_within 0 ["value", "least", "most"] fun _ _ _ _ _ _ us ws l1 l2 => match us, l1, ws, l2 with | [], _, [_, _, _], _ => rfl)⟩
  have B_is_row : ∀ base, Cl P w K mg base 1 "is_row" ["value", "room"] (sp_is_row K (cW K)) := fun base => ⟨_, fd_is_row, ok_is_row F_is_row T , glo_ok X G (c.a.fact 2 (f := .glo "is_row") rfl), F_is_row.kp, (F_is_row.binds (ps := ["value", "room"]) fun _ _ _ _ _ _ us hl => match us, hl with | [_, _], _ => rfl), (fun_kb F_is_row 0 ["value", "room"] fun _ _ _ _ _ _ us ws l1 l2 => match us, l1, ws, l2 with | [], _, [_, _], _ => rfl)⟩
  have B_is_letter : ∀ base, Cl P w K mg base 3 "is_letter" ["value"] (sp_is_letter K (cW K)) := fun base => ⟨_, fd_is_letter, ok_is_letter F_is_letter T (B_is_within base) (B_is_integer base), glo_ok X G (c.a.fact 3 (f := .glo "is_letter") rfl), F_is_letter.kp, (F_is_letter.binds (ps := ["value"]) fun _ _ _ _ _ _ us hl => match us, hl with | [_], _ => rfl), (fun_kb F_is_letter 0 ["value"] fun _ _ _ _ _ _ us ws l1 l2 => match us, l1, ws, l2 with | [], _, [_], _ => rfl)⟩
  have B_changed_at : ∀ base, Cl P w K mg base 1 "changed_at" ["bits", "bit"] (sp_changed_at K (cW K)) := fun base => ⟨_, fd_changed_at, ok_changed_at F_changed_at T , glo_ok X G (c.a.fact 4 (f := .glo "changed_at") rfl), F_changed_at.kp, (F_changed_at.binds (ps := ["bits", "bit"]) fun _ _ _ _ _ _ us hl => match us, hl with | [_, _], _ => rfl), (fun_kb F_changed_at 0 ["bits", "bit"] fun _ _ _ _ _ _ us ws l1 l2 => match us, l1, ws, l2 with | [], _, [_, _], _ => rfl)⟩
  have B_are_letters : ∀ base, Cl P w K mg base 1 "are_letters" ["row", "bit", "packets", "number"] (sp_are_letters K (cW K)) := fun base => ⟨_, fd_are_letters, ok_are_letters F_are_letters T , glo_ok X G (c.a.fact 5 (f := .glo "are_letters") rfl), F_are_letters.kp, (F_are_letters.binds (ps := ["row", "bit", "packets", "number"]) fun _ _ _ _ _ _ us hl => match us, hl with | [_, _, _, _], _ => rfl), (fun_kb F_are_letters 0 ["row", "bit", "packets", "number"] fun _ _ _ _ _ _ us ws l1 l2 => match us, l1, ws, l2 with | [], _, [_, _, _, _], _ => rfl)⟩
  have B_is_ahead : ∀ base, Cl P w K mg base 2 "is_ahead" ["packets", "room", "standing", "bit"] (sp_is_ahead K (cW K)) := fun base => ⟨_, fd_is_ahead, ok_is_ahead F_is_ahead T (B_changed_at base) (B_are_letters base), glo_ok X G (c.a.fact 6 (f := .glo "is_ahead") rfl), F_is_ahead.kp, (F_is_ahead.binds (ps := ["packets", "room", "standing", "bit"]) fun _ _ _ _ _ _ us hl => match us, hl with | [_, _, _, _], _ => rfl), (fun_kb F_is_ahead 0 ["packets", "room", "standing", "bit"] fun _ _ _ _ _ _ us ws l1 l2 => match us, l1, ws, l2 with | [], _, [_, _, _, _], _ => rfl)⟩
  have B_is_behind : ∀ base, Cl P w K mg base 2 "is_behind" ["packets", "standing", "bit"] (sp_is_behind K (cW K)) := fun base => ⟨_, fd_is_behind, ok_is_behind F_is_behind T (B_changed_at base) (B_are_letters base), glo_ok X G (c.a.fact 7 (f := .glo "is_behind") rfl), F_is_behind.kp, (F_is_behind.binds (ps := ["packets", "standing", "bit"]) fun _ _ _ _ _ _ us hl => match us, hl with | [_, _, _], _ => rfl), (fun_kb F_is_behind 0 ["packets", "standing", "bit"] fun _ _ _ _ _ _ us ws l1 l2 => match us, l1, ws, l2 with | [], _, [_, _, _], _ => rfl)⟩
  have B_is_possible : ∀ base, Cl P w K mg base 4 "is_possible" ["packets", "room", "value"] (sp_is_possible K (cW K)) := fun base => ⟨_, fd_is_possible, ok_is_possible F_is_possible T (B_is_ahead base) (B_is_behind base) (B_is_within base) (B_is_row base) (B_is_letter base), glo_ok X G (c.a.fact 8 (f := .glo "is_possible") rfl), F_is_possible.kp, (F_is_possible.binds (ps := ["packets", "room", "value"]) fun _ _ _ _ _ _ us hl => match us, hl with | [_, _, _], _ => rfl), (fun_kb F_is_possible 0 ["packets", "room", "value"] fun _ _ _ _ _ _ us ws l1 l2 => match us, l1, ws, l2 with | [], _, [_, _, _], _ => rfl)⟩
  have B_check_packets : ∀ base, Cl P w K mg base 3 "check_packets" ["packets", "most"] (sp_check_packets K (cW K)) := fun base => ⟨_, fd_check_packets, ok_check_packets F_check_packets T (B_is_within base), glo_ok X G (c.a.fact 9 (f := .glo "check_packets") rfl), F_check_packets.kp, (F_check_packets.binds (ps := ["packets", "most"]) fun _ _ _ _ _ _ us hl => match us, hl with | [_, _], _ => rfl), (fun_kb F_check_packets 0 ["packets", "most"] fun _ _ _ _ _ _ us ws l1 l2 => match us, l1, ws, l2 with | [], _, [_, _], _ => rfl)⟩
  have B_check_room : ∀ base, Cl P w K mg base 3 "check_room" ["room", "most"] (sp_check_room K (cW K)) := fun base => ⟨_, fd_check_room, ok_check_room F_check_room T (B_is_within base), glo_ok X G (c.a.fact 10 (f := .glo "check_room") rfl), F_check_room.kp, (F_check_room.binds (ps := ["room", "most"]) fun _ _ _ _ _ _ us hl => match us, hl with | [_, _], _ => rfl), (fun_kb F_check_room 0 ["room", "most"] fun _ _ _ _ _ _ us ws l1 l2 => match us, l1, ws, l2 with | [], _, [_, _], _ => rfl)⟩
  have B_Wire___init__ : ∀ base, Mkr P w K mg base 4 "Wire" (cW K) ["self", "packets", "room"] (sp_Wire___init__ K (cW K)) := fun base => ⟨_, fd_Wire___init__, MK, ok_Wire___init__ F_Wire___init__ T (B_check_packets base) (B_check_room base), glo_ok X G (c.a.fact 29 (f := .glo "Wire") rfl), (F_Wire___init__.binds (ps := ["self", "packets", "room"]) fun _ _ _ _ _ _ us hl => match us, hl with | [_, _, _], _ => rfl), (fun_kb F_Wire___init__ 1 ["packets", "room"] fun _ _ _ _ _ _ us ws l1 l2 => match us, l1, ws, l2 with | [_], _, [_, _], _ => rfl)⟩
  have B_Wire_packets : ∀ base, Prp P w K mg base 1 (cW K) "packets" (sp_Wire_packets K (cW K)) := fun base => ⟨_, _, fd_Wire_packets, T.cl, prB_ok (prF "packets" (by decide)), ok_Wire_packets F_Wire_packets T , (F_Wire_packets.binds (ps := ["self"]) fun _ _ _ _ _ _ us hl => match us, hl with | [_], _ => rfl)⟩
  have B_Wire_room : ∀ base, Prp P w K mg base 1 (cW K) "room" (sp_Wire_room K (cW K)) := fun base => ⟨_, _, fd_Wire_room, T.cl, prB_ok (prF "room" (by decide)), ok_Wire_room F_Wire_room T , (F_Wire_room.binds (ps := ["self"]) fun _ _ _ _ _ _ us hl => match us, hl with | [_], _ => rfl)⟩
  have B_Wire_known : ∀ base, Prp P w K mg base 1 (cW K) "known" (sp_Wire_known K (cW K)) := fun base => ⟨_, _, fd_Wire_known, T.cl, prB_ok (prF "known" (by decide)), ok_Wire_known F_Wire_known T , (F_Wire_known.binds (ps := ["self"]) fun _ _ _ _ _ _ us hl => match us, hl with | [_], _ => rfl)⟩
  have B_Wire_got : ∀ base, Prp P w K mg base 1 (cW K) "got" (sp_Wire_got K (cW K)) := fun base => ⟨_, _, fd_Wire_got, T.cl, prB_ok (prF "got" (by decide)), ok_Wire_got F_Wire_got T , (F_Wire_got.binds (ps := ["self"]) fun _ _ _ _ _ _ us hl => match us, hl with | [_], _ => rfl)⟩
  have B_Wire_bits : ∀ base, Prp P w K mg base 1 (cW K) "bits" (sp_Wire_bits K (cW K)) := fun base => ⟨_, _, fd_Wire_bits, T.cl, prB_ok (prF "bits" (by decide)), ok_Wire_bits F_Wire_bits T , (F_Wire_bits.binds (ps := ["self"]) fun _ _ _ _ _ _ us hl => match us, hl with | [_], _ => rfl)⟩
  have B_Wire_letters : ∀ base, Prp P w K mg base 1 (cW K) "letters" (sp_Wire_letters K (cW K)) := fun base => ⟨_, _, fd_Wire_letters, T.cl, prB_ok (prF "letters" (by decide)), ok_Wire_letters F_Wire_letters T , (F_Wire_letters.binds (ps := ["self"]) fun _ _ _ _ _ _ us hl => match us, hl with | [_], _ => rfl)⟩
  have B_Wire_answers : ∀ base, Prp P w K mg base 1 (cW K) "answers" (sp_Wire_answers K (cW K)) := fun base => ⟨_, _, fd_Wire_answers, T.cl, prB_ok (prF "answers" (by decide)), ok_Wire_answers F_Wire_answers T , (F_Wire_answers.binds (ps := ["self"]) fun _ _ _ _ _ _ us hl => match us, hl with | [_], _ => rfl)⟩
  have B_Wire_standing : ∀ base, Prp P w K mg base 1 (cW K) "standing" (sp_Wire_standing K (cW K)) := fun base => ⟨_, _, fd_Wire_standing, T.cl, prB_ok (prF "standing" (by decide)), ok_Wire_standing F_Wire_standing T , (F_Wire_standing.binds (ps := ["self"]) fun _ _ _ _ _ _ us hl => match us, hl with | [_], _ => rfl)⟩
  have B_Wire_do_hear : ∀ base, Mt P w K mg base 1 (cW K) "do_hear" ["self"] (sp_Wire_do_hear K (cW K)) := fun base => ⟨_, fd_Wire_do_hear, T.cl, meth_ok (c.a.fact 70 (f := .meth "Wire" "do_hear") rfl), ok_Wire_do_hear F_Wire_do_hear T , (F_Wire_do_hear.binds (ps := ["self"]) fun _ _ _ _ _ _ us hl => match us, hl with | [_], _ => rfl), (fun_kb F_Wire_do_hear 1 [] fun _ _ _ _ _ _ us ws l1 l2 => match us, l1, ws, l2 with | [_], _, [], _ => rfl)⟩
  have B_Wire_do_heard : ∀ base, Mt P w K mg base 1 (cW K) "do_heard" ["self"] (sp_Wire_do_heard K (cW K)) := fun base => ⟨_, fd_Wire_do_heard, T.cl, meth_ok (c.a.fact 71 (f := .meth "Wire" "do_heard") rfl), ok_Wire_do_heard F_Wire_do_heard T , (F_Wire_do_heard.binds (ps := ["self"]) fun _ _ _ _ _ _ us hl => match us, hl with | [_], _ => rfl), (fun_kb F_Wire_do_heard 1 [] fun _ _ _ _ _ _ us ws l1 l2 => match us, l1, ws, l2 with | [_], _, [], _ => rfl)⟩
  have B_placed : ∀ base, Cl P w K mg base 1 "placed" ["row", "word", "place"] (sp_placed K (cW K)) := fun base => ⟨_, fd_placed, ok_placed F_placed T , glo_ok X G (c.a.fact 11 (f := .glo "placed") rfl), F_placed.kp, (F_placed.binds (ps := ["row", "word", "place"]) fun _ _ _ _ _ _ us hl => match us, hl with | [_, _, _], _ => rfl), (fun_kb F_placed 0 ["row", "word", "place"] fun _ _ _ _ _ _ us ws l1 l2 => match us, l1, ws, l2 with | [], _, [_, _, _], _ => rfl)⟩
  have B_Wire_done : ∀ base, Mt P w K mg base 2 (cW K) "done" ["self", "event"] (sp_Wire_done K (cW K)) := fun base => ⟨_, fd_Wire_done, T.cl, meth_ok (c.a.fact 69 (f := .meth "Wire" "done") rfl), ok_Wire_done F_Wire_done T (B_Wire_do_hear base) (B_Wire_do_heard base) (B_placed base), (F_Wire_done.binds (ps := ["self", "event"]) fun _ _ _ _ _ _ us hl => match us, hl with | [_, _], _ => rfl), (fun_kb F_Wire_done 1 ["event"] fun _ _ _ _ _ _ us ws l1 l2 => match us, l1, ws, l2 with | [_], _, [_], _ => rfl)⟩
  have B_can_place : ∀ base, Cl P w K mg base 3 "can_place" ["wire", "event"] (sp_can_place K (cW K)) := fun base => ⟨_, fd_can_place, ok_can_place F_can_place T (B_is_within base), glo_ok X G (c.a.fact 13 (f := .glo "can_place") rfl), F_can_place.kp, (F_can_place.binds (ps := ["wire", "event"]) fun _ _ _ _ _ _ us hl => match us, hl with | [_, _], _ => rfl), (fun_kb F_can_place 0 ["wire", "event"] fun _ _ _ _ _ _ us ws l1 l2 => match us, l1, ws, l2 with | [], _, [_, _], _ => rfl)⟩
  have B_can_come : ∀ base, Cl P w K mg base 4 "can_come" ["wire", "event"] (sp_can_come K (cW K)) := fun base => ⟨_, fd_can_come, ok_can_come F_can_come T (B_can_place base), glo_ok X G (c.a.fact 12 (f := .glo "can_come") rfl), F_can_come.kp, (F_can_come.binds (ps := ["wire", "event"]) fun _ _ _ _ _ _ us hl => match us, hl with | [_, _], _ => rfl), (fun_kb F_can_come 0 ["wire", "event"] fun _ _ _ _ _ _ us ws l1 l2 => match us, l1, ws, l2 with | [], _, [_, _], _ => rfl)⟩
  have B_Wire_go_on : ∀ base, Mt P w K mg base 5 (cW K) "go_on" ["self", "event"] (sp_Wire_go_on K (cW K)) := fun base => ⟨_, fd_Wire_go_on, T.cl, meth_ok (c.a.fact 68 (f := .meth "Wire" "go_on") rfl), ok_Wire_go_on F_Wire_go_on T (B_Wire_done base) (B_can_come base), (F_Wire_go_on.binds (ps := ["self", "event"]) fun _ _ _ _ _ _ us hl => match us, hl with | [_, _], _ => rfl), (fun_kb F_Wire_go_on 1 ["event"] fun _ _ _ _ _ _ us ws l1 l2 => match us, l1, ws, l2 with | [_], _, [_], _ => rfl)⟩
  have B_Wire_copy : ∀ base, Mt P w K mg base 6 (cW K) "copy" ["self"] (sp_Wire_copy K (cW K)) := fun base => ⟨_, fd_Wire_copy, T.cl, meth_ok (c.a.fact 72 (f := .meth "Wire" "copy") rfl), ok_Wire_copy F_Wire_copy T (B_Wire___init__ base), (F_Wire_copy.binds (ps := ["self"]) fun _ _ _ _ _ _ us hl => match us, hl with | [_], _ => rfl), (fun_kb F_Wire_copy 1 [] fun _ _ _ _ _ _ us ws l1 l2 => match us, l1, ws, l2 with | [_], _, [], _ => rfl)⟩
  have B_events_now : ∀ base, Cl P w K mg base 5 "events_now" ["wire"] (sp_events_now K (cW K)) := fun base => ⟨_, fd_events_now, ok_events_now F_events_now T (B_can_come base), glo_ok X G (c.a.fact 14 (f := .glo "events_now") rfl), F_events_now.kp, (F_events_now.binds (ps := ["wire"]) fun _ _ _ _ _ _ us hl => match us, hl with | [_], _ => rfl), (fun_kb F_events_now 0 ["wire"] fun _ _ _ _ _ _ us ws l1 l2 => match us, l1, ws, l2 with | [], _, [_], _ => rfl)⟩
  have B_played_wire : ∀ base, Cl P w K mg base 6 "played_wire" ["packets", "room", "events"] (sp_played_wire K (cW K)) := fun base => ⟨_, fd_played_wire, ok_played_wire F_played_wire T (B_Wire___init__ base) (B_is_row base) (B_Wire_done base) (B_can_come base), glo_ok X G (c.a.fact 15 (f := .glo "played_wire") rfl), F_played_wire.kp, (F_played_wire.binds (ps := ["packets", "room", "events"]) fun _ _ _ _ _ _ us hl => match us, hl with | [_, _, _], _ => rfl), (fun_kb F_played_wire 0 ["packets", "room", "events"] fun _ _ _ _ _ _ us ws l1 l2 => match us, l1, ws, l2 with | [], _, [_, _, _], _ => rfl)⟩
  have B_can_be : ∀ base, Cl P w K mg base 5 "can_be" ["packets", "room", "value"] (sp_can_be K (cW K)) := fun base => ⟨_, fd_can_be, ok_can_be F_can_be T (B_check_packets base) (B_check_room base) (B_is_possible base), glo_ok X G (c.a.fact 16 (f := .glo "can_be") rfl), F_can_be.kp, (F_can_be.binds (ps := ["packets", "room", "value"]) fun _ _ _ _ _ _ us hl => match us, hl with | [_, _, _], _ => rfl), (fun_kb F_can_be 0 ["packets", "room", "value"] fun _ _ _ _ _ _ us ws l1 l2 => match us, l1, ws, l2 with | [], _, [_, _, _], _ => rfl)⟩
  have B_calm_round : ∀ base, Cl P w K mg base 7 "calm_round" ["wire"] (sp_calm_round K (cW K)) := fun base => ⟨_, fd_calm_round, ok_calm_round F_calm_round T (B_Wire_copy base) (B_Wire_do_hear base) (B_Wire_do_heard base), glo_ok X G (c.a.fact 17 (f := .glo "calm_round") rfl), F_calm_round.kp, (F_calm_round.binds (ps := ["wire"]) fun _ _ _ _ _ _ us hl => match us, hl with | [_], _ => rfl), (fun_kb F_calm_round 0 ["wire"] fun _ _ _ _ _ _ us ws l1 l2 => match us, l1, ws, l2 with | [], _, [_], _ => rfl)⟩
  have B__law_pot : ∀ base, Cl P w K mg base 1 "_law_pot" ["script", "place"] (sp__law_pot K (cW K)) := fun base => ⟨_, fd__law_pot, ok__law_pot F__law_pot T , glo_ok X G (c.a.fact 18 (f := .glo "_law_pot") rfl), F__law_pot.kp, (F__law_pot.binds (ps := ["script", "place"]) fun _ _ _ _ _ _ us hl => match us, hl with | [_, _], _ => rfl), (fun_kb F__law_pot 0 ["script", "place"] fun _ _ _ _ _ _ us ws l1 l2 => match us, l1, ws, l2 with | [], _, [_, _], _ => rfl)⟩
  have B__law_take : ∀ base, Cl P w K mg base 1 "_law_take" ["pot", "upto"] (sp__law_take K (cW K)) := fun base => ⟨_, fd__law_take, ok__law_take F__law_take T , glo_ok X G (c.a.fact 19 (f := .glo "_law_take") rfl), F__law_take.kp, (F__law_take.binds (ps := ["pot", "upto"]) fun _ _ _ _ _ _ us hl => match us, hl with | [_, _], _ => rfl), (fun_kb F__law_take 0 ["pot", "upto"] fun _ _ _ _ _ _ us ws l1 l2 => match us, l1, ws, l2 with | [], _, [_, _], _ => rfl)⟩
  have B__law_of : ∀ base, Cl P w K mg base 2 "_law_of" ["pot", "some"] (sp__law_of K (cW K)) := fun base => ⟨_, fd__law_of, ok__law_of F__law_of T (B__law_take base), glo_ok X G (c.a.fact 20 (f := .glo "_law_of") rfl), F__law_of.kp, (F__law_of.binds (ps := ["pot", "some"]) fun _ _ _ _ _ _ us hl => match us, hl with | [_, _], _ => rfl), (fun_kb F__law_of 0 ["pot", "some"] fun _ _ _ _ _ _ us ws l1 l2 => match us, l1, ws, l2 with | [], _, [_, _], _ => rfl)⟩
  have B__law_some : ∀ base, Cl P w K mg base 2 "_law_some" ["pot", "some", "many"] (sp__law_some K (cW K)) := fun base => ⟨_, fd__law_some, ok__law_some F__law_some T (B__law_take base), glo_ok X G (c.a.fact 21 (f := .glo "_law_some") rfl), F__law_some.kp, (F__law_some.binds (ps := ["pot", "some", "many"]) fun _ _ _ _ _ _ us hl => match us, hl with | [_, _, _], _ => rfl), (fun_kb F__law_some 0 ["pot", "some", "many"] fun _ _ _ _ _ _ us ws l1 l2 => match us, l1, ws, l2 with | [], _, [_, _, _], _ => rfl)⟩
  have B__law_cells : ∀ base, Cl P w K mg base 1 "_law_cells" ["script", "most"] (sp__law_cells K (cW K)) := fun base => ⟨_, fd__law_cells, ok__law_cells F__law_cells T , glo_ok X G (c.a.fact 22 (f := .glo "_law_cells") rfl), F__law_cells.kp, (F__law_cells.binds (ps := ["script", "most"]) fun _ _ _ _ _ _ us hl => match us, hl with | [_, _], _ => rfl), (fun_kb F__law_cells 0 ["script", "most"] fun _ _ _ _ _ _ us ws l1 l2 => match us, l1, ws, l2 with | [], _, [_, _], _ => rfl)⟩
  have B__law_going : ∀ base, Cl P w K mg base 6 "_law_going" ["pot", "packets", "room", "many"] (sp__law_going K (cW K)) := fun base => ⟨_, fd__law_going, ok__law_going F__law_going T (B_Wire___init__ base) (B_events_now base) (B_Wire_go_on base) (B__law_of base) (B__law_take base) (B_Wire_answers base), glo_ok X G (c.a.fact 23 (f := .glo "_law_going") rfl), F__law_going.kp, (F__law_going.binds (ps := ["pot", "packets", "room", "many"]) fun _ _ _ _ _ _ us hl => match us, hl with | [_, _, _, _], _ => rfl), (fun_kb F__law_going 0 ["pot", "packets", "room", "many"] fun _ _ _ _ _ _ us ws l1 l2 => match us, l1, ws, l2 with | [], _, [_, _, _, _], _ => rfl)⟩
  have B__law_tells : ∀ base, Cl P w K mg base 3 "_law_tells" ["wire"] (sp__law_tells K (cW K)) := fun base => ⟨_, fd__law_tells, ok__law_tells F__law_tells T (B_Wire_known base) (B_Wire_got base) (B_Wire_bits base) (B_Wire_letters base) (B_Wire_answers base) (B_Wire_standing base), glo_ok X G (c.a.fact 24 (f := .glo "_law_tells") rfl), F__law_tells.kp, (F__law_tells.binds (ps := ["wire"]) fun _ _ _ _ _ _ us hl => match us, hl with | [_], _ => rfl), (fun_kb F__law_tells 0 ["wire"] fun _ _ _ _ _ _ us ws l1 l2 => match us, l1, ws, l2 with | [], _, [_], _ => rfl)⟩
  have B__law_are_changes_right : ∀ base, Cl P w K mg base 7 "_law_are_changes_right" ["pot", "wire", "room"] (sp__law_are_changes_right K (cW K)) := fun base => ⟨_, fd__law_are_changes_right, ok__law_are_changes_right F__law_are_changes_right T (B__law_tells base) (B_Wire_letters base) (B_Wire_answers base) (B__law_take base) (B_Wire_copy base) (B_Wire_go_on base) (B__law_some base), glo_ok X G (c.a.fact 25 (f := .glo "_law_are_changes_right") rfl), F__law_are_changes_right.kp, (F__law_are_changes_right.binds (ps := ["pot", "wire", "room"]) fun _ _ _ _ _ _ us hl => match us, hl with | [_, _, _], _ => rfl), (fun_kb F__law_are_changes_right 0 ["pot", "wire", "room"] fun _ _ _ _ _ _ us ws l1 l2 => match us, l1, ws, l2 with | [], _, [_, _, _], _ => rfl)⟩
  have B__law_is_emptied_right : ∀ base, Cl P w K mg base 8 "_law_is_emptied_right" ["wire", "packets"] (sp__law_is_emptied_right K (cW K)) := fun base => ⟨_, fd__law_is_emptied_right, ok__law_is_emptied_right F__law_is_emptied_right T (B_Wire_copy base) (B_Wire_letters base) (B_Wire_answers base) (B_Wire_go_on base) (B_calm_round base) (B_Wire_known base) (B_Wire_got base), glo_ok X G (c.a.fact 26 (f := .glo "_law_is_emptied_right") rfl), F__law_is_emptied_right.kp, (F__law_is_emptied_right.binds (ps := ["wire", "packets"]) fun _ _ _ _ _ _ us hl => match us, hl with | [_, _], _ => rfl), (fun_kb F__law_is_emptied_right 0 ["wire", "packets"] fun _ _ _ _ _ _ us ws l1 l2 => match us, l1, ws, l2 with | [], _, [_, _], _ => rfl)⟩
  have B__law_right : ∀ base, Cl P w K mg base 9 "_law_right" ["pot", "many"] (sp__law_right K (cW K)) := fun base => ⟨_, fd__law_right, ok__law_right F__law_right T (B__law_going base) (B__law_take base) (B_played_wire base) (B_Wire_copy base) (B__law_of base) (B_can_be base) (B_Wire_go_on base) (B_Wire_bits base) (B__law_are_changes_right base) (B__law_is_emptied_right base) (B_Wire_standing base) (B__law_tells base) (B_Wire_known base) (B_Wire_room base) (B_Wire_got base), glo_ok X G (c.a.fact 27 (f := .glo "_law_right") rfl), F__law_right.kp, (F__law_right.binds (ps := ["pot", "many"]) fun _ _ _ _ _ _ us hl => match us, hl with | [_, _], _ => rfl), (fun_kb F__law_right 0 ["pot", "many"] fun _ _ _ _ _ _ us ws l1 l2 => match us, l1, ws, l2 with | [], _, [_, _], _ => rfl)⟩
  have e := hfa0.symm.trans (glo_ok X G (c.a.fact 28 (f := .glo "law") rfl))
  cases e
  obtain ⟨oc, od, kV, doc, pm, an, cdv, ct, osl, efd, lk, hcd⟩ := F_law.ex
  refine ⟨fd_law, fun s v => ?_, fun base _ _ => ok_law F_law T (B__law_cells base) (B__law_pot base) (B__law_right base) (B__law_take base)⟩
  rw [efd]
  exact .of_eq rfl
end Dh
open PySem PySem.W PySem.Calls PyProof.Rows
theorem PySem.Challenge.cw_downhillnet_k12_whole_wires_lost_and_dou_holds : PySem.Challenge.rw_downhillnet_k12_whole_wires_lost_and_dou.Holds := by
  w_on; o_law
  refine HandSHeadRun.head_any (r := OpenLaw.row PySem.Challenge.rw_downhillnet_k12_whole_wires_lost_and_dou) (q := view (OpenLaw.row PySem.Challenge.rw_downhillnet_k12_whole_wires_lost_and_dou).prog [53]) (H := Dh.hHook) (ob := Dh.hOb) (M := 20000) (loose := Dh.hnm) (d := HandSHeadRun.topDef (OpenLaw.row PySem.Challenge.rw_downhillnet_k12_whole_wires_lost_and_dou).prog 53) (kwd := []) Dh.hOb_eq
    (by kernel_rfl) (fun s => by kernel_rfl) Dh.hRun (by kernel_rfl) (by kernel_rfl) (by kernel_rfl) (by rfl) (by first | assumption | decide +kernel) (by decide +kernel) ⟨rfl, rfl, rfl, rfl, rfl, by decide +kernel⟩ ?hw ?hc
  case hw => w_witness2
  case hc =>
    refine L2.walk_ofE (l := PySem.Challenge.rw_downhillnet_k12_whole_wires_lost_and_dou) (n := 63) (k := 10) (x := "script") (CX := L2.CX0) rfl (by decide) (by kernel_rfl) ⟨rfl, by decide, by decide⟩ ?F (fun _ _ _ _ z => z)
    intro w mg fa h Y G hmg0
    obtain ⟨K, KX, c⟩ := Y
    have hmg : mg ("law" : PySem.Str) = some (.ref fa) := by
      have e : (HandSHeadRun.topDef (OpenLaw.row PySem.Challenge.rw_downhillnet_k12_whole_wires_lost_and_dou).prog 53).name = ("law" : PySem.Str) := by kernel_rfl
      rw [← e]
      exact hmg0
    obtain ⟨fd, hb, hF⟩ := Dh.hFacts (P := (PySem.Challenge.rw_downhillnet_k12_whole_wires_lost_and_dou).prog) (w := w) KX G hmg c
    exact ⟨K, fd, Dh.sp_law K (Dh.cW K), KX, hb, fun H a ns hl _ hS => ⟨_, rfl, a, ns, rfl, hS, hl, fun _ => rfl⟩, hF⟩
#print axioms PySem.Challenge.cw_downhillnet_k12_whole_wires_lost_and_dou_holds
