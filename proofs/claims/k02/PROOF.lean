import PyProof.Rows.All
import Wide.All
import OpenK.AllK
import Wide.FinOn
import HandS.ForMost
import HandS.Star
import HandS.IsInst
import HandS.WideBits
import HandS.EndBits
import HandS.Style
import HandS.Flow
import KE.GoesEnum
import KE.GoesMore
import KE.BitLaws
import PyProof.ReprRoads
import HandS.Ends
import PyProof.EqAt
import PyProof.EqKinds
import PyProof.TupleCall
import HandS.Base
import HandS.Call
import HandS.Exc
import KE.KExcInit
import KE.KExcIs
import HandS.ExcInit
import HandS.ExcIs
import HandS.ExcValue
import HandS.HotCalls
import HandS.ExcField
import HandS.Lambda
import HandS.EndTab
import HandS.SetFor
import HandS.WordsExc
import HandS.NoneIn
import HandS.Dict
import HandS.Conv
import PySem.Challenge.RW_codeback_k02_numbers_and_operations_refu
set_option Elab.async false
set_option linter.all false
section
set_option maxRecDepth 100000
set_option maxHeartbeats 4000000
namespace Cb
open PySem PySem.Spec PyProof.Rows L2

/-! ### a def of the module by its name: what it promises -/
def Gives (P : Program) (w : World) (K : PySem.W.Frag) (mg : Str → Option Value) (base : Heap) (CX : CXT) (k : Nat) (x : Str) (sp : Sp) : Prop :=
  ∃ f, mg x = some (.ref f) ∧ PySem.W.keepIn K (.ref f) = true ∧ FnR P w K mg base CX k f sp
/-- the reading of such a call -/
def tOwn (sp : Sp) (E : XK) (t : TA) : TE := fun σ H Q => t σ H fun vs H1 => sp vs H1 Q E
section
variable {X : Cx} {CX : CXT} {k : Nat} {sp : Sp} {E : XK} {x : Str} {e : Expr} {es : List Expr} {t : TA} {p pos : Pos}
/-- x(e, ..), x a def of the module, by its positional promise -/
theorem pe_own (F : Gives X.prog X.w X.K X.mg X.base CX k x sp) (hr : Room k X.A) (hg : Gl X x) (hx : Passes CX X E) (ha : PA X (e :: es) t) (hdb : (x == ("__debug__" : Str)) = false := by decide)
    (he : starEach (e :: es) X.env = (false, eval e X.env) :: starEach es X.env := by rfl) (hpl : (backTo pos (starEach es X.env)).any (·.1) = false := by rfl) :
    PE X (.Call (.Name x p) (e :: es) [] pos) (tOwn sp E t) := by
  obtain ⟨f, hm, hk, F⟩ := F
  refine ⟨fun pins s σ H Q I h => ?_⟩
  refine wpAny_Call_Name_kw (ld_glob I hg hm ?_ hdb)
  refine PySem.W.callWith_K (h₀ := X.base) I.ok.mod.kin hk (thn (ha.run pos pins s σ H _ I h) fun us s1 ⟨vs, H1, I1, r, q⟩ => ⟨I1.kIn, ?_⟩) he hpl
  exact wpAny_call (run_fnR F hr hx I1 r q)
/-- x() -/
theorem pe_own0 (F : Gives X.prog X.w X.K X.mg X.base CX k x sp) (hr : Room k X.A) (hg : Gl X x) (hx : Passes CX X E) (hdb : (x == ("__debug__" : Str)) = false := by decide) :
    PE X (.Call (.Name x p) [] [] pos) (tOwn sp E tNil) := by
  obtain ⟨f, hm, hk, F⟩ := F
  refine ⟨fun pins s σ H Q I h => ?_⟩
  refine wpAny_Call_Name_kw (ld_glob I hg hm ?_ hdb)
  exact PySem.W.callWith_K0 I.kIn hk (wpAny_call (run_fnR F hr hx I .nil h))
end
theorem gives_of {P : Program} {w : World} {K : PySem.W.Frag} {mg : Str → Option Value} {base : Heap} {CX : CXT} {k : Nat} {x : Str} {sp : Sp} {f : Addr} {fd : FuncData} {ps : List Str} (hm : mg x = some (.ref f)) (hk : PySem.W.keepIn K (.ref f) = true) (F : FnOk P w K mg base CX k f fd ps sp) (b : Binds K fd ps []) :
    Gives P w K mg base CX k x sp := ⟨f, hm, hk, by
  intro A outer s H us vs Q E hr e0 r hsp
  have hl := F.len vs H Q E hsp
  have KX : K.In s.heap := e0.mod.kin.keeps fun b o e => (e0.bs b o e).1
  have hb := b s us KX (by rw [List.append_nil, ← r.length]; exact hl)
  rw [List.append_nil] at hb
  exact F.run A outer s H _ us vs Q E hr e0 hb r hsp⟩

/-! ### heaps that only grow -/
theorem same_upd {H : Hp} {p : Addr} {o : HO} (h : H p = none) : Same H (upd H p o) := fun b x e => by
  rw [upd_ne (ne_of_none e h)]
  exact e
theorem Same.upd {H H1 : Hp} {p : Addr} {o : HO} (s : Same H H1) (h : H1 p = none) : Same H (upd H1 p o) := s.trans (same_upd h)
/-- all but a stays -/
def SameBut (a : Addr) (H H' : Hp) : Prop := ∀ b o, b ≠ a → H b = some o → H' b = some o
theorem SameBut.refl (a : Addr) (H : Hp) : SameBut a H H := fun _ _ _ h => h
theorem SameBut.of {a : Addr} {H H' : Hp} (s : Same H H') : SameBut a H H' := fun b o _ h => s b o h
theorem SameBut.trans {a : Addr} {H H1 H2 : Hp} (s : SameBut a H H1) (t : SameBut a H1 H2) : SameBut a H H2 := fun b o n h => t b o n (s b o n h)
theorem SameBut.upd {a : Addr} {H H1 : Hp} {o : HO} (s : SameBut a H H1) : SameBut a H (upd H1 a o) := fun b x n h => by
  rw [upd_ne n]
  exact s b x n h
theorem SameBut.new {a : Addr} {H H1 : Hp} {p : Addr} {o : HO} (s : SameBut a H H1) (h : H1 p = none) : SameBut a H (L2.upd H1 p o) := s.trans (.of (same_upd h))
theorem sqt_same {K : PySem.W.Frag} {H H' : Hp} {a : Addr} {xs : List V} (e : Same H H') (h : SqT K H a xs) : SqT K H' a xs := by
  rcases h with (h | ⟨o, h⟩) | h
  · exact .inl (.inl (e _ _ h))
  · exact .inl (.inr ⟨o, e _ _ h⟩)
  · exact .inr h

/-! ### enumerate(tuple) -/
set_option maxHeartbeats 1000000 in
theorem meets_enumerate_new1 {v : Value} {o : Obj} {H : Heap → Prop} (B : Begins v o H) :
    Meets (Builtin.«enumerate.__new__» ⟨[.type "enumerate", v], []⟩) (fun _ R s => H s.heap ∧
      R (.ok (.ret (.ref (s.heap.push o).objs.size))) { s with heap := (s.heap.push o).push { cls := .type "enumerate", data := .fields #[.none, .bool false, .ref s.heap.objs.size, rawInt 0, .none, .none] } }) :=
  .of_wp fun prog w A R s h => by
    obtain ⟨hp, g, d, tk, os⟩ := s; obtain ⟨h1, h⟩ := h
    have hsub := sub_enumerate
    have q1 : ∀ {A' : Around} {E : Value → Shared → Prop} {Q : Value → Shared → Prop}, Q (.ref hp.objs.size) ⟨hp.push o, g, d, tk, os⟩ → wpAny (model prog w) A' (pyIter v) Q E ⟨hp, g, d, tk, os⟩ :=
      fun q => B.iter prog w _ _ ⟨hp, g, d, tk, os⟩ _ h1 q
    wp_walk using q1
    refine wpAny_stack_any fun st => wpAny_pure ?_
    split
    · rename_i c _ _ _ _ _
      cases (c == Value.type "enumerate")
      · wp_walk using q1
        exact ⟨_, rfl, h⟩
      · wp_walk using q1
        exact ⟨_, rfl, h⟩
    · wp_walk using q1
      exact ⟨_, rfl, h⟩
section
variable {prog : Program} {w : World} {A : Around} {E : Value → Shared → Prop} {s : Shared}
theorem enum_begins1 {v : Value} {o : Obj} {H : Heap → Prop} {Q : Value → Shared → Prop} (B : Begins v o H) (h1 : H s.heap)
    (h : ∀ h', IsEnum h' (s.heap.objs.size + 1) s.heap.objs.size 0 .none → h'.get? s.heap.objs.size = some o → h'.objs.size = s.heap.objs.size + 2 →
      (∀ b o, s.heap.get? b = some o → h'.get? b = some o) → Q (.ref (s.heap.objs.size + 1)) { s with heap := h' }) :
    wpAny (model prog w) A (call (.type "enumerate") [v]) Q E s := by
  refine callType_new F.called_enumerate (by decide) (F.typeCall_enumerate_1 _) (F.newCall_enumerate_1 _) (fun obj => F.args_object_init_2 obj _) F.entry_enumerate_new
    (meets_enumerate_new1 B) ⟨h1, ?_⟩
  have hz : (s.heap.push o).objs.size = s.heap.objs.size + 1 := Heap.size_push ..
  show _ ∧ _
  rw [hz]
  have he : IsEnum ((s.heap.push o).push { cls := .type "enumerate", data := .fields #[.none, .bool false, .ref s.heap.objs.size, rawInt 0, .none, .none] }) (s.heap.objs.size + 1) s.heap.objs.size 0 .none := by
    have := Heap.get?_push_size (s.heap.push o) (o := { cls := .type "enumerate", data := .fields #[.none, .bool false, .ref s.heap.objs.size, rawInt 0, .none, .none] }) rfl
    rw [hz] at this; exact this
  refine ⟨⟨_, he, rfl⟩, h _ he (Heap.get?_push_of_some _ (Heap.get?_push_size _ B.free)) (by rw [Heap.size_push, hz]) fun b o x => Heap.get?_push_of_some _ (Heap.get?_push_of_some _ x)⟩
end
/-- the tuple at a, each item in a new pair -/
def IteT (K : PySem.W.Frag) (a : Addr) : It :=
  ⟨fun i H => ∃ (xs : List V) (x : V), SqT K H a xs ∧ xs[i]? = some x, fun i H v H' => ∃ T x, v = .ref T ∧ H T = none ∧ H' = upd H T (.tup [.int (i : Nat), x]) ∧ ∀ xs, SqT K H a xs → xs[i]? = some x, fun i H => ∃ xs : List V, SqT K H a xs ∧ xs.length = i⟩
theorem turn_enumT {P : Program} {w : World} {K : PySem.W.Frag} {elts : List Expr} {kk : Nat} {tpos : Pos} (a e it : Addr) :
    Turn P w K (.Tuple elts kk tpos) (IteT K a) [e, it] e (fun i h => (∃ old, IsEnum h e it ((i : Nat) : Int) old) ∧ h.IsTupleIter it a i ∧ e ≠ it ∧ a ≠ it ∧ a ≠ e) where
  mem := by simp
  obj := fun i h st b hb => by
    obtain ⟨⟨old, he⟩, ⟨o, ho, hc, hd⟩, _⟩ := st
    have e' : b = e ∨ b = it := by simpa using hb
    rcases e' with z | z
    · rw [z]; exact ⟨_, he, fun v q => nomatch q⟩
    · rw [z]; exact ⟨o, ho, fun v q => by rw [hd] at q; cases q⟩
  keep := fun i h h' st k => let ⟨⟨old, he⟩, hi, hne⟩ := st; ⟨⟨old, k e (by simp) _ he⟩, hi.at fun o q => k it (by simp) o q, hne⟩
  item := by
    intro X hP hw hK hc i pins s σ H E I hf st hg
    subst hP hw hK
    obtain ⟨⟨old, he⟩, hit, hne, hai, hae⟩ := st
    obtain ⟨xs, x, hq, hx⟩ := hg
    obtain ⟨its, rv, p, hz⟩ := I.tuple hq
    obtain ⟨u, hu, ru⟩ := rv.get hx
    have hel : e < s.heap.objs.size := Heap.lt_size he
    have hil : it < s.heap.objs.size := by obtain ⟨_, q, _⟩ := hit; exact Heap.lt_size q
    have hlt : i < its.toArray.size := by
      rw [List.size_toArray]
      exact (List.getElem?_eq_some_iff.mp hu).1
    refine wpAny_pyNext_enum_itemD (Draws.tuple (show X.A.in1.handled = none from I.ok.hd hc) it a hai its.toArray) he ⟨hit, show s.heap.IsTuple a its.toArray from p⟩ hlt hne (by simp; exact ⟨hne, Ne.symm hae⟩) fun v h' tk hv ho hst hT hsz hk => ?_
    have ev : v = u := by
      have e1 : its[i]? = some v := by simpa using hv
      rw [hu] at e1
      exact (Option.some.inj e1).symm
    subst ev
    refine ⟨_, rfl, wpAny_letOwnedTupleGo_enum (s := { s with heap := h', toks := tk + 1 }) ho fun h'' he' sb => ?_⟩
    have hT2 : h''.get? s.heap.objs.size = some { cls := .type "tuple", data := .seq #[.int i tk, v] } := (sb.2 _ (Nat.ne_of_gt hel)).trans hT
    have new : ObjOk X.prog X.w (upd H s.heap.objs.size (.tup [.int (i : Nat), x])) h'' s.heap.objs.size (.tup [.int (i : Nat), x]) :=
      ⟨by show 2 ≤ sizeLine; decide, [.int i tk, v], .cons ⟨_, rfl⟩ (.cons ru .nil), ⟨_, hT2, rfl, _, rfl⟩⟩
    have I1 : Inv X pins σ (upd H s.heap.objs.size (.tup [.int (i : Nat), x])) { s with heap := h'', toks := tk + 1 } :=
      I.turnedNew (ch := [e, it]) (fun b ob hb q => (sb.2 b (fun z => hb (by simp [z]))).trans (hk b ob (fun z => hb (by simp [z])) (fun z => hb (by simp [z])) q)) hf (Nat.le_refl _) new
    refine ⟨.ref s.heap.objs.size, _, I1, rfl, ⟨_, x, rfl, I.hok.fresh (Nat.le_refl _), rfl, fun ys hy => by rw [I.tuple_inj hy hq]; exact hx⟩, ⟨⟨v, ?_⟩, hst.1.at fun o q => (sb.2 it (Ne.symm hne)).trans q, hne, hai, hae⟩, fun b hb => ?_⟩
    · have e1 : ((i + 1 : Nat) : Int) = (i : Int) + 1 := by omega
      rw [e1]; exact he'
    · have hb' : b < s.heap.objs.size := by
        have e' : b = e ∨ b = it := by simpa using hb
        rcases e' with z | z
        · rw [z]; exact hel
        · rw [z]; exact hil
      rw [upd_ne (Nat.ne_of_lt hb')]
      exact (hf b hb).1
  done := by
    intro X hP hw hK hc i pins s σ H E I hf st hg
    subst hP hw hK
    obtain ⟨⟨old, he⟩, hit, hne, hai, hae⟩ := st
    obtain ⟨xs, hq, hx⟩ := hg
    obtain ⟨its, rv, p, hz⟩ := I.tuple hq
    obtain ⟨f0, f1, f2, f3, f4, f5⟩ := hf it (by simp)
    have hl := rv.length
    have ei : its.toArray.size = i := by
      rw [List.size_toArray]
      omega
    refine wpAny_pyNext_enum_endD (Draws.tuple (show X.A.in1.handled = none from I.ok.hd hc) it a hai its.toArray) he ⟨?_, show s.heap.IsTuple a its.toArray from p⟩ fun h' eb => ⟨rfl, I.turned (t' := s.toks) (fun b o hb q => eb b o hb q) f0 f1 f3 f4 f5⟩
    rw [ei]
    exact hit
  self := fun A i s Q E st h => let ⟨⟨_, he⟩, _⟩ := st; wpAny_pyIter_enum he h
theorem for_enumT {K : PySem.W.Frag} {a : Addr} {xs : List V} {g : TG} {tb : TS} {D : Ends} {σ : L2.St} {H : Hp} (Pv : Nat → L2.St → Hp → Prop) (h0 : Pv 0 σ H) (hl : ∀ i σ H, i ≤ xs.length → Pv i σ H → SqT K H a xs)
    (hs : ∀ i x σ H T, xs[i]? = some x → Pv i σ H → H T = none → g (.ref T) σ (upd H T (.tup [.int (i : Nat), x])) fun σ2 H2 => tb { D with nx := Pv (i + 1), ct := Pv (i + 1), bk := D.nx } σ2 H2) (hd : ∀ σ H, Pv xs.length σ H → D.nx σ H) :
    ∃ W : Nat → Nat → L2.St → Hp → Prop, (∃ m, W 0 m σ H) ∧ ∀ i m σ H, W i m σ H →
      ((IteT K a).stop i H ∧ D.nx σ H) ∨ ((IteT K a).go i H ∧ ∃ N : L2.St → Hp → Prop, (∀ σ' H', N σ' H' → ∃ m', m' < m ∧ W (i + 1) m' σ' H') ∧ ∀ x H', (IteT K a).yld i H x H' → g x σ H' fun σ2 H2 => tb { D with nx := N, ct := N, bk := D.nx } σ2 H2) := by
  refine ⟨fun i m σ H => m = xs.length - i ∧ i ≤ xs.length ∧ Pv i σ H, ⟨xs.length, by simp, Nat.zero_le _, h0⟩, ?_⟩
  rintro i m σ H ⟨rfl, hi, p⟩
  have q := hl i σ H hi p
  by_cases hlt : i < xs.length
  · have hx : xs[i]? = some xs[i] := List.getElem?_eq_getElem hlt
    refine .inr ⟨⟨xs, _, q, hx⟩, Pv (i + 1), fun σ' H' p' => ⟨xs.length - (i + 1), by omega, rfl, hlt, p'⟩, fun v H' hy => ?_⟩
    obtain ⟨T, x, rfl, hT, rfl, f⟩ := hy
    exact hs i x σ H T (f xs q) p hT
  · obtain rfl : i = xs.length := by omega
    exact .inl ⟨⟨xs, q, rfl⟩, hd σ H p⟩
def iEnumT (K : PySem.W.Frag) (ta : TA) : TI := fun σ H R => ta σ H fun vs H1 => ∃ a xs, vs = [.ref a] ∧ SqT K H1 a xs ∧ R (IteT K a) H1
theorem pi_enumT {X : Cx} {e : Expr} {ta : TA} {p pos tpos : Pos} {elts : List Expr} {kk : Nat} (hg : Gl X "enumerate") (hm : X.mg "enumerate" = none) (ha : PA X [e] ta) (hs : starEach [e] X.env = [(false, eval e X.env)] := by rfl) :
    PI X (.Tuple elts kk tpos) (.Call (.Name "enumerate" p) [e] [] pos) (iEnumT X.K ta) := by
  refine ⟨fun pins s σ H R I h => ?_⟩
  refine Call_ (ld_blt I hg hm boot_enumerate (PyProof.Rows.callWith_type1 (thn (ha.run pos pins s σ H _ I h) fun us s1 ⟨vs, H1, I1, r1, q1⟩ => ?_) hs rfl))
  obtain ⟨a, xs, ex, hq, q⟩ := q1
  subst ex
  cases r1 with
  | cons r rr =>
    cases rr
    cases r
    obtain ⟨its, rv, p', hz⟩ := I1.tuple hq
    have p2 : s1.heap.IsTuple a its.toArray := p'
    have hal : a < s1.heap.objs.size := by
      obtain ⟨o, ho, _⟩ := id p2
      exact Heap.lt_size ho
    refine enum_begins1 (begins_tuple a its.toArray) p2 fun h' he hit hsz hk => wpAny_pyIter_enum he ?_
    have I2 : Inv X pins σ H1 { s1 with heap := h' } := I1.kept (t' := s1.toks) hk
    refine ⟨s1.heap.objs.size + 1, [s1.heap.objs.size + 1, s1.heap.objs.size], _, _, H1, rfl, I2, turn_enumT a (s1.heap.objs.size + 1) s1.heap.objs.size, ⟨⟨.none, he⟩, ⟨_, hit, rfl, rfl⟩, Nat.succ_ne_self _, Nat.ne_of_lt hal, Nat.ne_of_lt (Nat.lt_succ_of_lt hal)⟩, fun b hb => ?_, q⟩
    have e' : b = s1.heap.objs.size + 1 ∨ b = s1.heap.objs.size := by simpa using hb
    have hle : s1.heap.objs.size ≤ b := by
      rcases e' with z | z
      · rw [z]; exact Nat.le_add_right _ _
      · rw [z]; exact Nat.le_refl _
    exact I1.fpOk hle (I1.hok.fresh hle)
end Cb

end

section
set_option maxRecDepth 100000
set_option maxHeartbeats 4000000
namespace Cb
open PySem PySem.Spec PyProof.Rows L2
theorem PE.imp {X : Cx} {e : Expr} {t t' : TE} (h : PE X e t) (hi : ∀ σ H Q, t' σ H Q → t σ H Q) : PE X e t' := ⟨fun pins s σ H Q I q => h.run pins s σ H Q I (hi σ H Q q)⟩
theorem PT.imp {X : Cx} {e : Expr} {t t' : TT} (h : PT X e t) (hi : ∀ σ H Q, t' σ H Q → t σ H Q) : PT X e t' := ⟨fun pins s σ H Q I q => h.run pins s σ H Q I (hi σ H Q q)⟩
/-- a constant of the module -/
def GlobV (mg : Str → Option Value) (x : Str) (v : V) : Prop := ∃ u, mg x = some u ∧ RelV v u
/-- a written tuple of the module -/
def GlobT (K : PySem.W.Frag) (mg : Str → Option Value) (x : Str) (xs : List V) : Prop := ∃ a, mg x = some (.ref a) ∧ ∀ H, SqT K H a xs
def tGT (K : PySem.W.Frag) (xs : List V) : TE := fun _ H Q => ∀ a, (∀ H', SqT K H' a xs) → Q (.ref a) H
section
variable {X : Cx} {x : Str} {pos p q : Pos}
theorem pe_gv {v : V} (hg : Gl X x) (h : GlobV X.mg x v) (hd : (x == ("__debug__" : Str)) = false := by decide) : PE X (.Name x pos) (tC v) := by
  obtain ⟨u, hm, r⟩ := h
  exact pe_glob hg hm r hd
theorem pe_gt {xs : List V} (hg : Gl X x) (h : GlobT X.K X.mg x xs) (hd : (x == ("__debug__" : Str)) = false := by decide) : PE X (.Name x pos) (tGT X.K xs) := by
  obtain ⟨a, hm, hs⟩ := h
  exact PE.imp (pe_glob (v := .ref a) hg hm rfl hd) fun σ H Q z => z a hs
def tConst (cs : List V) : TA := fun _ H Q => Q cs H
theorem pc_nil : PA X [] (tConst []) := pa_nil
theorem pc_cons {s : Str} {es : List Expr} {cs : List V} {j} (h : PA X es (tConst cs)) (hs : starEach (.Constant (.str s) j p :: es) X.env = (false, eval (.Constant (.str s) j p) X.env) :: starEach es X.env := by rfl) :
    PA X (.Constant (.str s) j p :: es) (tConst (.str s :: cs)) := pa_cons pe_str h hs
def tInC (neg : Bool) (i : Nat) (cs : List V) : TE := fun σ H Q => ∃ x, σ[i]? = some (some x) ∧ flatV x = true ∧ ∀ H2, Same H H2 → Q (.bl (if neg then !inV x cs else inV x cs)) H2
theorem pe_inC {i k : Nat} {es : List Expr} {cs : List V} (hN : X.N[i]? = some x) (hv : Vis X.env.scope x) (hc : PA X es (tConst cs)) (hf : cs.all flatV = true := by rfl) (hl : cs.length ≤ sizeLine := by decide)
    (hd : (x == ("__debug__" : Str)) = false := by decide) (hcd : (x == ("__classdict__" : Str)) = false := by decide) :
    PE X (.Compare (.Name x p) [.In] [.Tuple es k q] pos) (tInC false i cs) :=
  PE.imp (pe_cmpR op_in_seq (pe_var hN hv hd hcd) (pe_tup hc) rfl) fun σ H Q z => by
    obtain ⟨v, e, fv, z⟩ := z
    exact ⟨v, e, hl, fun a ha => ⟨a, cs, rfl, .inr (.inl (.inl upd_same)), fv, hf, z _ (same_upd ha)⟩⟩
theorem pe_notinC {i k : Nat} {es : List Expr} {cs : List V} (hN : X.N[i]? = some x) (hv : Vis X.env.scope x) (hc : PA X es (tConst cs)) (hf : cs.all flatV = true := by rfl) (hl : cs.length ≤ sizeLine := by decide)
    (hd : (x == ("__debug__" : Str)) = false := by decide) (hcd : (x == ("__classdict__" : Str)) = false := by decide) :
    PE X (.Compare (.Name x p) [.NotIn] [.Tuple es k q] pos) (tInC true i cs) :=
  PE.imp (pe_cmpR op_notIn_seq (pe_var hN hv hd hcd) (pe_tup hc) rfl) fun σ H Q z => by
    obtain ⟨v, e, fv, z⟩ := z
    exact ⟨v, e, hl, fun a ha => ⟨a, cs, rfl, .inr (.inl (.inl upd_same)), fv, hf, z _ (same_upd ha)⟩⟩
theorem pt_inC {i k : Nat} {es : List Expr} {cs : List V} (hN : X.N[i]? = some x) (hv : Vis X.env.scope x) (hc : PA X es (tConst cs)) (hf : cs.all flatV = true := by rfl) (hl : cs.length ≤ sizeLine := by decide)
    (hd : (x == ("__debug__" : Str)) = false := by decide) (hcd : (x == ("__classdict__" : Str)) = false := by decide) :
    PT X (.Compare (.Name x p) [.In] [.Tuple es k q] pos) (tTest (tInC false i cs)) :=
  PT.imp (pt_cmpR op_in_seq (pe_var hN hv hd hcd) (pe_tup hc) rfl) fun σ H Q z => by
    obtain ⟨v, e, fv, z⟩ := z
    exact ⟨v, e, hl, fun a ha => ⟨a, cs, rfl, .inr (.inl (.inl upd_same)), fv, hf, z _ (same_upd ha)⟩⟩
theorem pt_notinC {i k : Nat} {es : List Expr} {cs : List V} (hN : X.N[i]? = some x) (hv : Vis X.env.scope x) (hc : PA X es (tConst cs)) (hf : cs.all flatV = true := by rfl) (hl : cs.length ≤ sizeLine := by decide)
    (hd : (x == ("__debug__" : Str)) = false := by decide) (hcd : (x == ("__classdict__" : Str)) = false := by decide) :
    PT X (.Compare (.Name x p) [.NotIn] [.Tuple es k q] pos) (tTest (tInC true i cs)) :=
  PT.imp (pt_cmpR op_notIn_seq (pe_var hN hv hd hcd) (pe_tup hc) rfl) fun σ H Q z => by
    obtain ⟨v, e, fv, z⟩ := z
    exact ⟨v, e, hl, fun a ha => ⟨a, cs, rfl, .inr (.inl (.inl upd_same)), fv, hf, z _ (same_upd ha)⟩⟩
/-- a ** b of written numbers -/
theorem pe_powc (c : Int) {a b : Int} {j k} (h : CPow a b) (e : a ^ b.toNat = c) : PE X (.BinOp (.Constant (.int a) j p) .Pow (.Constant (.int b) k q) pos) (tC (.int c)) :=
  PE.imp (pe_op op_pow pe_int pe_int) fun σ H Q z => by
    subst e
    exact ⟨_, _, rfl, rfl, h, z⟩
/-- -a of a written number -/
theorem pe_negc (c : Int) {a : Int} {j} (e : -a = c) : PE X (.UnaryOp .USub (.Constant (.int a) j p) pos) (tC (.int c)) :=
  PE.imp (pe_un un_neg pe_int) fun σ H Q z => by
    subst e
    exact ⟨_, rfl, z⟩
/-- isinstance(x, T) for x in slot i, T a built-in class -/
def tIsi (K : PySem.W.Frag) (i : Nat) (b : String) : TE := fun σ H Q => ∃ (x : V) (t : Value) (r : Bool), σ[i]? = some (some x) ∧ TyX K H x t ∧ PySem.W.kitOne K t (.type b) = some r ∧ Q (.bl r) H
end
/-! ### answers by equations -/
theorem bl_cast {Q : VK} {H : Hp} {a b : Bool} (e : a = b) (q : Q (.bl b) H) : Q (.bl a) H := e ▸ q
theorem int_cast {Q : VK} {H : Hp} {i j : Int} (e : i = j) (q : Q (.int j) H) : Q (.int i) H := e ▸ q
theorem v_cast {Q : VK} {H : Hp} {i j : V} (e : i = j) (q : Q j H) : Q i H := e ▸ q
theorem iteF' {A B : Prop} {b : Bool} (e : b = false) (h : B) : if b = true then A else B := by
  subst e
  exact iteF h
theorem iteT' {A B : Prop} {b : Bool} (e : b = true) (h : A) : if b = true then A else B := by
  subst e
  exact iteT h
end Cb

end

section
set_option maxRecDepth 100000
set_option maxHeartbeats 4000000
namespace Cb
open PySem PySem.Spec PyProof.Rows L2
/-- a def of the module stands there as the text says -/
def Stands (K : PySem.W.Frag) (mg : Str → Option Value) (x : Str) (st : Stmt) : Prop := ∃ f fd, mg x = some (.ref f) ∧ Fun K x x st f fd
theorem gives_fun {P : Program} {w : World} {K : PySem.W.Frag} {mg : Str → Option Value} {base : Heap} {k : Nat} {x : Str} {st : Stmt} {N ps : List Str} {sp : Sp} (T : Stands K mg x st) (S : FnScope N ps (defScope st))
    (hb : ∀ (kV doc pm : Value) (an : Option Addr) (cdv ct : Value) (us : List Value), us.length = ps.length → bindArgs (PySem.W.fnOf x x (defArgs st) (defBody st) (defScope st) .none kV doc pm an cdv ct) ⟨us, []⟩ = pure (ps.zip us))
    (len : ∀ vs H Q E, sp vs H Q E → vs.length = ps.length)
    (hbody : ∀ (f : Addr) (cdv : Value) (A : Around) (outer : List Env) (s : Shared) (H : Hp) (vs : List V) (Q : VK) (E : XK), Room k (A.deeper (envOfC x (defScope st) s.heap.objs.size f cdv)) → sp vs H Q E →
      ∃ t, PSs (cxOf CX0 P w K mg base N x (defScope st) f cdv A outer s H E).nox (defBody st) t ∧ t { nx := fun _ H' => Q .non H', rt := Q } (start N vs) H) :
    Gives P w K mg base CX0 (k + 1) x sp := by
  obtain ⟨f, fd, hm, F⟩ := T
  exact gives_of hm F.kp (F.ok S len (hbody f)) (F.binds hb)
/-- def x(a, .., *v) -/
theorem gives_star {P : Program} {w : World} {K : PySem.W.Frag} {mg : Str → Option Value} {base : Heap} {k : Nat} {x pv : Str} {st : Stmt} {N ps : List Str} {sp : Sp} (T : Stands K mg x st) (S : FnScope N (ps ++ [pv]) (defScope st))
    (hb : ∀ (kV doc pm : Value) (an : Option Addr) (cdv ct : Value) (us rest : List Value), us.length = ps.length → bindArgs (PySem.W.fnOf x x (defArgs st) (defBody st) (defScope st) .none kV doc pm an cdv ct) ⟨us ++ rest, []⟩ = (newTuple rest >>= fun t => pure (ps.zip us ++ [(pv, t)])))
    (hbody : ∀ (f : Addr) (cdv : Value) (A : Around) (outer : List Env) (s : Shared) (H : Hp) (vs : List V) (Q : VK) (E : XK), Room k (A.deeper (envOfC x (defScope st) s.heap.objs.size f cdv)) → sp vs H Q E →
      ∃ t, PSs (cxOf CX0 P w K mg base N x (defScope st) f cdv A outer s H E).nox (defBody st) t ∧ t { nx := fun _ H' => Q .non H', rt := Q } (start N vs) H) :
    Gives P w K mg base CX0 (k + 1) x (fun vs H Q E => ∃ ws rest, vs = ws ++ rest ∧ ws.length = ps.length ∧ rest.length ≤ sizeLine ∧ ∀ p, H p = Option.none → sp (ws ++ [V.ref p]) (upd H p (.tup rest)) Q E) := by
  obtain ⟨f, fd, hm, F⟩ := T
  obtain ⟨oc, od, kV, doc, pm, an, cdv, ct, osl, rfl, lk, hcd⟩ := F.ex
  refine ⟨f, hm, F.kp, StX.fn_star lk hcd S StX.cxUp_none (hb kV doc pm an cdv ct) fun A outer s H vs Q E hr hsp => ?_⟩
  obtain ⟨t, h, q⟩ := hbody f cdv A outer s H vs Q E hr hsp
  exact ⟨t, h.nox, q⟩
theorem Gives.imp {P : Program} {w : World} {K : PySem.W.Frag} {mg : Str → Option Value} {base : Heap} {CX : CXT} {k : Nat} {x : Str} {sp sp' : Sp} (F : Gives P w K mg base CX k x sp) (h : ∀ vs H Q E, sp' vs H Q E → sp vs H Q E) : Gives P w K mg base CX k x sp' := by
  obtain ⟨f, hm, hk, F⟩ := F
  exact ⟨f, hm, hk, F.imp h⟩
/-! ### the operations -/
inductive Op where
  | add | sub | mul | div | rem | and | or | xor | shl | shr | lt | le | gt | ge | eq | ne | neg | not
  deriving DecidableEq
def Op.name : Op → Str
  | .add => "add" | .sub => "sub" | .mul => "mul" | .div => "div" | .rem => "rem" | .and => "and" | .or => "or" | .xor => "xor" | .shl => "shl" | .shr => "shr"
  | .lt => "lt" | .le => "le" | .gt => "gt" | .ge => "ge" | .eq => "eq" | .ne => "ne" | .neg => "neg" | .not => "not"
def Op.single : Op → Bool
  | .neg => true | .not => true | _ => false
def Wd (i : Int) : Prop := -2147483648 ≤ i ∧ i ≤ 2147483647
instance (i : Int) : Decidable (Wd i) := inferInstanceAs (Decidable (_ ∧ _))
def wrp (i : Int) : Int := (i - (-2147483648)) % 4294967296 + (-2147483648)
def ab (i : Int) : Int := if i < 0 then -i else i
def quo (i j : Int) : Int := if decide (i < 0) = decide (j < 0) then ab i / ab j else -(ab i / ab j)
def b2 (b : Bool) : Int := if b then 1 else 0
def cmpB : Op → Int → Int → Bool
  | .lt, a, b => decide (a < b) | .ge, a, b => !decide (a < b) | .le, a, b => decide (a ≤ b) | .gt, a, b => !decide (a ≤ b) | .eq, a, b => decide (a = b) | .ne, a, b => !decide (a = b)
  | _, _, _ => false
def Op.isCmp : Op → Bool
  | .lt => true | .le => true | .gt => true | .ge => true | .eq => true | .ne => true | _ => false
def Op.isBit : Op → Bool
  | .and => true | .or => true | .xor => true | .shl => true | .shr => true | _ => false
def bitI : Op → Int → Int → Int
  | .and, a, b => Builtin.bitAnd a b | .or, a, b => Builtin.bitOr a b | .xor, a, b => Builtin.bitXor a b
  | .shl, a, b => wrp (a * 2 ^ (b % 32).toNat) | _, a, b => a / 2 ^ (b % 32).toNat
/-- the result of an operation, None where it traps -/
def res : Op → Int → Int → V
  | .add, a, b => .int (wrp (a + b)) | .sub, a, b => .int (wrp (a - b)) | .mul, a, b => .int (wrp (a * b))
  | .div, a, b => if b = 0 then .non else .int (wrp (quo a b)) | .rem, a, b => if b = 0 then .non else .int (wrp (a - b * quo a b))
  | .neg, a, _ => .int (wrp (-a)) | .not, a, _ => .int (wrp (-a - 1))
  | .and, a, b => .int (Builtin.bitAnd a b) | .or, a, b => .int (Builtin.bitOr a b) | .xor, a, b => .int (Builtin.bitXor a b)
  | .shl, a, b => .int (wrp (a * 2 ^ (b % 32).toNat)) | .shr, a, b => .int (a / 2 ^ (b % 32).toNat)
  | o, a, b => .int (b2 (cmpB o a b))
/-! ### their promises -/
def spIsInt : Sp := fun vs H Q _ => ∃ i, vs = [.int i] ∧ Q (.bl true) H
def spIsWord : Sp := fun vs H Q _ => ∃ i, vs = [.int i] ∧ Q (.bl (decide (Wd i))) H
def spWrapped : Sp := fun vs H Q _ => ∃ i, vs = [.int i] ∧ Q (.int (wrp i)) H
def spQuot : Sp := fun vs H Q _ => ∃ i j, vs = [.int i, .int j] ∧ j ≠ 0 ∧ Wd j ∧ Q (.int (quo i j)) H
def spCompared : Sp := fun vs H Q _ => ∃ (o : Op) (a b : Int), vs = [.str o.name, .int a, .int b] ∧ o.isCmp = true ∧ ∀ H', Same H H' → Q (.bl (cmpB o a b)) H'
def spBits : Sp := fun vs H Q _ => ∃ (o : Op) (a b : Int), vs = [.str o.name, .int a, .int b] ∧ o.isBit = true ∧ Wd a ∧ Q (.int (bitI o a b)) H
def spResult : Sp := fun vs H Q _ => ∃ (o : Op) (a b : Int), vs = [.str o.name, .int a, .int b] ∧ Wd a ∧ Wd b ∧ ∀ H', Same H H' → Q (res o a b) H'
def spWrap : Sp := fun vs H Q _ => ∃ i, vs = [.int i] ∧ Q (.int (wrp i)) H
def spOperate : Sp := fun vs H Q _ => (∃ (o : Op) (a b : Int), vs = [.str o.name, .int a, .int b] ∧ o.single = false ∧ Wd a ∧ Wd b ∧ ∀ H', Same H H' → Q (res o a b) H') ∨
  ∃ (o : Op) (a : Int), vs = [.str o.name, .int a] ∧ o.single = true ∧ Wd a ∧ ∀ H', Same H H' → Q (res o a a) H'
def spOperateB : Sp := fun vs H Q _ => ∃ (o : Op) (p : Addr) (xs : List V), vs = [.str o.name, .ref p] ∧ H p = some (.tup xs) ∧ ((o.single = false ∧ ∃ a b : Int, xs = [.int a, .int b] ∧ Wd a ∧ Wd b ∧ ∀ H', Same H H' → Q (res o a b) H') ∨
  (o.single = true ∧ ∃ a : Int, xs = [.int a] ∧ Wd a ∧ ∀ H', Same H H' → Q (res o a a) H'))
theorem res_div {a b : Int} (h : b ≠ 0) : res .div a b = .int (wrp (quo a b)) := if_neg h
theorem res_rem {a b : Int} (h : b ≠ 0) : res .rem a b = .int (wrp (a - b * quo a b)) := if_neg h
theorem quo_wd {a b : Int} (ha : Wd a) : (quo a b).natAbs < 2 ^ 64 := by
  unfold quo
  have h : ab a / ab b ≤ 2147483648 ∧ 0 ≤ ab a / ab b := by
    have h1 : 0 ≤ ab a ∧ ab a ≤ 2147483648 := by
      unfold ab Wd at *
      split <;> omega
    have h2 : 0 ≤ ab b := by
      unfold ab
      split <;> omega
    have h3 := Int.ediv_nonneg h1.1 h2
    have h4 := Int.ediv_le_self (ab b) h1.1
    omega
  split <;> omega
end Cb

end

section
set_option maxHeartbeats 1000000
namespace Cb
open PySem PySem.Spec PyProof.Rows
theorem wrp_wd (i : Int) : Wd (wrp i) := by
  unfold Wd wrp
  omega
theorem wrp_id {i : Int} (h : Wd i) : wrp i = i := by
  unfold Wd at h
  unfold wrp
  omega
theorem wrp_ex (i : Int) : ∃ k : Int, wrp i = i + 4294967296 * k := ⟨-((i + 2147483648) / 4294967296), by unfold wrp; omega⟩
theorem wrp_of {i j : Int} (k : Int) (h : i = j + 4294967296 * k) : wrp i = wrp j := by
  subst h
  unfold wrp
  omega
theorem wrp_mul_r (a y : Int) : wrp (a * wrp y) = wrp (a * y) := by
  obtain ⟨k, e⟩ := wrp_ex y
  rw [e]
  exact wrp_of (a * k) (by rw [Int.mul_add, Int.mul_left_comm])
theorem wrp_mul_l (a y : Int) : wrp (wrp y * a) = wrp (y * a) := by
  rw [Int.mul_comm, wrp_mul_r, Int.mul_comm]
theorem wrp_add_r (a y : Int) : wrp (a + wrp y) = wrp (a + y) := by
  unfold wrp; omega
theorem wrp_add_l (a y : Int) : wrp (wrp y + a) = wrp (y + a) := by
  unfold wrp; omega
theorem wrp_sub_l (a y : Int) : wrp (wrp y - a) = wrp (y - a) := by
  unfold wrp; omega
theorem wrp_neg (y : Int) : wrp (-(wrp y)) = wrp (-y) := by
  unfold wrp; omega
theorem wrp_uniq {i j : Int} (hj : Wd j) (k : Int) (h : i = j + 4294967296 * k) : wrp i = j := by
  rw [wrp_of k h, wrp_id hj]
/-! sums -/
theorem ms5 (a b c : Int) : wrp (wrp (a + b) + c) = wrp (a + wrp (b + c)) := by rw [wrp_add_l, wrp_add_r, Int.add_assoc]
theorem ms6 (a b c : Int) : wrp (wrp (a * b) * c) = wrp (a * wrp (b * c)) := by rw [wrp_mul_l, wrp_mul_r, Int.mul_assoc]
theorem ms7 (a b c : Int) : wrp (a * wrp (b + c)) = wrp (wrp (a * b) + wrp (a * c)) := by rw [wrp_mul_r, wrp_add_l, wrp_add_r, Int.mul_add]
theorem ms8 (a b : Int) : wrp (a - b) = wrp (a + wrp (-b)) := by rw [wrp_add_r, Int.sub_eq_add_neg]
theorem ms10 {a : Int} (b : Int) (h : Wd a) : wrp (wrp (a + b) - b) = a := by
  rw [wrp_sub_l, show a + b - b = a by omega, wrp_id h]
theorem ms11 {a : Int} (h : Wd a) : wrp (-(wrp (-a))) = a := by
  rw [wrp_neg, Int.neg_neg, wrp_id h]
theorem ms12 (a : Int) : wrp (a + wrp (-a)) = 0 := by
  rw [wrp_add_r, show a + -a = 0 by omega]
  decide
theorem ms13 (a : Int) : wrp (a * -1) = wrp (-a) := by rw [Int.mul_neg, Int.mul_one]
theorem ms14 (a : Int) : wrp (-a) = wrp (0 - a) := by rw [Int.zero_sub]
/-! bits -/
abbrev band := Builtin.bitAnd
theorem tb_diff (i : Nat) : ∀ n k : Nat, (n - (n &&& k)).testBit i = (n.testBit i && !k.testBit i) := by
  induction i with
  | zero =>
    intro n k
    have h1 : (n &&& k) % 2 = (if n % 2 = 1 ∧ k % 2 = 1 then 1 else 0) := by
      have := Nat.testBit_and n k 0
      simp only [Nat.testBit_zero] at this
      rcases Nat.mod_two_eq_zero_or_one n with a | a <;> rcases Nat.mod_two_eq_zero_or_one k with b | b <;> rcases Nat.mod_two_eq_zero_or_one (n &&& k) with c | c <;> simp_all
    have h2 : (n &&& k) ≤ n := Nat.and_le_left
    simp only [Nat.testBit_zero]
    have h3 : (n - (n &&& k)) % 2 = 1 ↔ (n % 2 = 1 ∧ ¬ k % 2 = 1) := by
      split at h1 <;> omega
    by_cases c : (n - (n &&& k)) % 2 = 1
    · have := h3.mp c
      simp [c, this.1, this.2]
    · have d : ¬ (n % 2 = 1 ∧ ¬ k % 2 = 1) := fun z => c (h3.mpr z)
      by_cases e : n % 2 = 1
      · have f : k % 2 = 1 := Classical.byContradiction fun z => d ⟨e, z⟩
        simp [c, e, f]
      · simp [c, e]
  | succ i ih =>
    intro n k
    rw [Nat.testBit_succ, Nat.testBit_succ, Nat.testBit_succ, ← ih (n / 2) (k / 2)]
    congr 1
    have h0 : (n &&& k) / 2 = (n / 2) &&& (k / 2) := by
      rw [Nat.and_div_two]
    have h1 : (n &&& k) % 2 = (if n % 2 = 1 ∧ k % 2 = 1 then 1 else 0) := by
      have := Nat.testBit_and n k 0
      simp only [Nat.testBit_zero] at this
      rcases Nat.mod_two_eq_zero_or_one n with a | a <;> rcases Nat.mod_two_eq_zero_or_one k with b | b <;> rcases Nat.mod_two_eq_zero_or_one (n &&& k) with c | c <;> simp_all
    have h2 : (n &&& k) ≤ n := Nat.and_le_left
    rw [← h0]
    split at h1 <;> omega
/-- an int is a number or the not of one -/
theorem int_two (x : Int) : (∃ m : Nat, x = (m : Int)) ∨ ∃ m : Nat, x = -(m : Int) - 1 := by
  by_cases h : 0 ≤ x
  · exact .inl ⟨x.toNat, by omega⟩
  · exact .inr ⟨(-x - 1).toNat, by omega⟩
theorem band_pp (m n : Nat) : band m n = ((m &&& n : Nat) : Int) := by
  rw [band, bitAnd_pp (by omega) (by omega)]
  simp
theorem band_pn (m n : Nat) : band m (-(n : Int) - 1) = ((m - (m &&& n) : Nat) : Int) := by
  rw [band, bitAnd_pn (by omega) (by omega)]
  have h : (Builtin.bitNot (-(n : Int) - 1)).toNat = n := by
    unfold Builtin.bitNot
    omega
  rw [h]
  have : (m &&& n) ≤ m := Nat.and_le_left
  simp only [Int.toNat_natCast]
  omega
theorem band_np (m n : Nat) : band (-(m : Int) - 1) n = ((n - (n &&& m) : Nat) : Int) := by
  rw [band, bitAnd_comm]
  exact band_pn n m
theorem band_nn (m n : Nat) : band (-(m : Int) - 1) (-(n : Int) - 1) = -((m ||| n : Nat) : Int) - 1 := by
  rw [band, bitAnd_nn (by omega) (by omega)]
  have h : ∀ k : Nat, (Builtin.bitNot (-(k : Int) - 1)).toNat = k := fun k => by
    unfold Builtin.bitNot
    omega
  rw [h, h]
  rfl
theorem band_assoc (x y z : Int) : band (band x y) z = band x (band y z) := by
  rcases int_two x with ⟨m, rfl⟩ | ⟨m, rfl⟩ <;> rcases int_two y with ⟨n, rfl⟩ | ⟨n, rfl⟩ <;> rcases int_two z with ⟨k, rfl⟩ | ⟨k, rfl⟩ <;>
    simp only [band_pp, band_pn, band_np, band_nn] <;> (first | (congr 1; apply Nat.eq_of_testBit_eq) | (congr 1; congr 1; apply Nat.eq_of_testBit_eq) | (congr 1; congr 1; congr 1; apply Nat.eq_of_testBit_eq)) <;> intro i <;> simp only [Nat.testBit_and, Nat.testBit_or, tb_diff] <;>
    cases m.testBit i <;> cases n.testBit i <;> cases k.testBit i <;> rfl
theorem band_wd {a b : Int} (ha : Wd a) (hb : Wd b) : Wd (band a b) := by
  unfold Wd at *
  rcases int_two a with ⟨m, rfl⟩ | ⟨m, rfl⟩ <;> rcases int_two b with ⟨n, rfl⟩ | ⟨n, rfl⟩
  · rw [band_pp]
    have : (m &&& n) ≤ m := Nat.and_le_left
    omega
  · rw [band_pn]
    omega
  · rw [band_np]
    omega
  · rw [band_nn]
    have h : (m ||| n) < 2 ^ 31 := Nat.or_lt_two_pow (by omega) (by omega)
    omega
theorem bor_eq (a b : Int) : Builtin.bitOr a b = a + b - band a b := bitOr_and a b
theorem bxor_eq (a b : Int) : Builtin.bitXor a b = a + b - 2 * band a b := bitXor_and a b
theorem band_not (a b : Int) : band a (-b - 1) = a - band a b := bitAnd_not a b
theorem band_cm (a b : Int) : band a b = band b a := bitAnd_comm a b
theorem band_self (a : Int) : band a a = a := bitAnd_self a
theorem not_wd {a : Int} (ha : Wd a) : Wd (-a - 1) := by
  unfold Wd at *
  omega
theorem bor_wd {a b : Int} (ha : Wd a) (hb : Wd b) : Wd (Builtin.bitOr a b) := by
  have h := band_wd (not_wd ha) (not_wd hb)
  have e : Builtin.bitOr a b = -(band (-a - 1) (-b - 1)) - 1 := rfl
  rw [e]
  exact not_wd h
theorem bor_band (a b : Int) : Builtin.bitOr a b = -(band (-a - 1) (-b - 1)) - 1 := rfl
theorem band_abs (a b : Int) : band a (band a b) = band a b := by rw [← band_assoc, band_self]
theorem band_or (a b : Int) : band a (Builtin.bitOr a b) = a := by
  rw [bor_band, band_not, ← band_assoc, band_not a a, band_self, Int.sub_self]
  have h : ∀ x : Int, band 0 x = 0 := fun x => by
    rw [band_cm]
    exact bitAnd_zero x
  rw [h]
  omega
theorem bxor_band (a b : Int) : Builtin.bitXor a b = band (Builtin.bitOr a b) (-(band a b) - 1) := by
  rw [band_not, show band (Builtin.bitOr a b) (band a b) = band a b by rw [← band_assoc, band_cm (Builtin.bitOr a b) a, band_or]]
  rfl
theorem bxor_wd {a b : Int} (ha : Wd a) (hb : Wd b) : Wd (Builtin.bitXor a b) := by
  rw [bxor_band]
  exact band_wd (bor_wd ha hb) (not_wd (band_wd ha hb))
theorem band_xor (a b : Int) : band a (Builtin.bitXor a b) = a - band a b := by
  rw [bxor_band, ← band_assoc, band_or, band_not, band_abs]
theorem bor_cm (a b : Int) : Builtin.bitOr a b = Builtin.bitOr b a := bitOr_comm a b
theorem bxor_cm (a b : Int) : Builtin.bitXor a b = Builtin.bitXor b a := by rw [bxor_eq, bxor_eq, band_cm, Int.add_comm]
theorem bxor_xor (a b : Int) : Builtin.bitXor (Builtin.bitXor a b) b = a := by
  rw [bxor_eq (Builtin.bitXor a b) b, band_cm, bxor_cm a b, band_xor, bxor_eq]
  have := band_cm a b
  omega
theorem mb1 {a b : Int} (ha : Wd a) (hb : Wd b) : Builtin.bitXor a b = wrp (Builtin.bitOr a b - Builtin.bitAnd a b) := (wrp_id (bxor_wd ha hb)).symm
theorem mb2 (a b : Int) : wrp (Builtin.bitAnd a b + Builtin.bitOr a b) = wrp (a + b) := by
  rw [bor_eq]
  congr 1
  show band a b + (a + b - band a b) = a + b
  omega
theorem wnot {a : Int} (ha : Wd a) : wrp (-a - 1) = -a - 1 := wrp_id (not_wd ha)
theorem mb3 {a b : Int} (ha : Wd a) (hb : Wd b) : wrp (-(Builtin.bitAnd a b) - 1) = Builtin.bitOr (wrp (-a - 1)) (wrp (-b - 1)) := by
  rw [wnot ha, wnot hb, wnot (band_wd ha hb), bor_band]
  rw [show -(-a - 1) - 1 = a by omega, show -(-b - 1) - 1 = b by omega]
theorem mb4 (a : Int) : wrp (-a - 1) = wrp (-1 - a) := by
  rw [show -a - 1 = -1 - a by omega]
theorem mb6 {a : Int} (ha : Wd a) : wrp (-(wrp (-a - 1)) - 1) = a := by
  rw [wnot ha, wnot (not_wd ha)]
  omega
theorem mb8 (a b : Int) : Builtin.bitOr a (Builtin.bitAnd a b) = a := by
  rw [bor_eq, show band a (Builtin.bitAnd a b) = band a b from band_abs a b]
  show a + band a b - band a b = a
  omega
theorem mb9 (a : Int) : Builtin.bitXor a a = 0 := by
  rw [bxor_eq, band_self]
  omega
theorem mb10 {a b : Int} (hb : Wd b) : Builtin.bitAnd a (Builtin.bitXor a b) = Builtin.bitAnd a (wrp (-b - 1)) := by
  rw [wnot hb]
  show band a (Builtin.bitXor a b) = band a (-b - 1)
  rw [band_xor, band_not]
end Cb

end

section
set_option maxHeartbeats 1000000
namespace Cb
open PySem PySem.Spec PyProof.Rows
theorem by31 (b : Int) : Builtin.bitAnd b 31 = b % 32 := bitAnd_m5 b
theorem wd_mod (b : Int) : Wd (b % 32) := by
  unfold Wd
  omega
theorem mod_mod (b : Int) : b % 32 % 32 = b % 32 := by omega
theorem p2 (s : Nat) : (0 : Int) < 2 ^ s := Int.pow_pos (by decide)
theorem shl_mul (a b : Int) : wrp (a * 2 ^ (b % 32).toNat) = wrp (a * wrp (1 * 2 ^ (b % 32).toNat)) := by rw [wrp_mul_r, Int.one_mul]
theorem fl_not (a d : Int) (h : 0 < d) : (-a - 1) / d = -(a / d) - 1 := by
  have h1 := Int.mul_ediv_add_emod a d
  have h2 := Int.emod_nonneg a (Int.ne_of_gt h)
  have h3 := Int.emod_lt_of_pos a h
  have e : -a - 1 = (d - 1 - a % d) + (-(a / d) - 1) * d := by
    rw [Int.sub_mul, Int.neg_mul, Int.mul_comm (a / d) d]
    omega
  rw [e, Int.add_mul_ediv_right _ _ (Int.ne_of_gt h), Int.ediv_eq_zero_of_lt (by omega) (by omega)]
  omega
theorem shr_wd {a : Int} (ha : Wd a) (s : Nat) : Wd (a / 2 ^ s) := by
  have h := p2 s
  unfold Wd at *
  by_cases c : 0 ≤ a
  · have h1 := Int.ediv_nonneg c (Int.le_of_lt h)
    have h2 := Int.ediv_le_self (2 ^ s) c
    omega
  · have h0 : a = -(-a - 1) - 1 := by omega
    have h1 := Int.ediv_nonneg (show 0 ≤ -a - 1 by omega) (Int.le_of_lt h)
    have h2 := Int.ediv_le_self (2 ^ s) (show 0 ≤ -a - 1 by omega)
    rw [h0, fl_not _ _ h]
    omega
theorem shr_not {a : Int} (ha : Wd a) (b : Int) : wrp (-a - 1) / 2 ^ (b % 32).toNat = wrp (-(a / 2 ^ (b % 32).toNat) - 1) := by
  rw [wnot ha, wnot (shr_wd ha _), fl_not _ _ (p2 _)]
theorem shr_back {a : Int} (ha : Wd a) (s : Nat) (hs : s ≤ 31) : wrp (a / 2 ^ s * 2 ^ s) / 2 ^ s = a / 2 ^ s := by
  have h := p2 s
  have w : Wd (a / 2 ^ s * 2 ^ s) := by
    have h1 := Int.mul_ediv_add_emod a (2 ^ s)
    have h2 := Int.emod_nonneg a (Int.ne_of_gt h)
    have h3 := Int.emod_lt_of_pos a h
    rw [Int.mul_comm] at h1
    have h4 : (-2147483648 : Int) / 2 ^ s * 2 ^ s = -2147483648 := Int.ediv_mul_cancel (by
      have : (2147483648 : Int) = 2 ^ s * 2 ^ (31 - s) := by
        rw [← Int.pow_add, show s + (31 - s) = 31 by omega]
        decide
      exact ⟨-2 ^ (31 - s), by rw [Int.mul_neg, ← this]⟩)
    have h5 : (-2147483648 : Int) / 2 ^ s ≤ a / 2 ^ s := Int.ediv_le_ediv h ha.1
    have h6 := Int.mul_le_mul_of_nonneg_right h5 (Int.le_of_lt h)
    rw [h4] at h6
    unfold Wd at *
    omega
  rw [wrp_id w, Int.mul_ediv_cancel _ (Int.ne_of_gt h)]
/-! quotients -/
theorem ab_nn (i : Int) : 0 ≤ ab i := by
  unfold ab
  split <;> omega
theorem ab_pos {i : Int} (h : i ≠ 0) : 0 < ab i := by
  unfold ab
  split <;> omega
theorem quo_rest (a b : Int) (hb : b ≠ 0) : ∃ q r : Int, quo a b = q ∧ a - b * q = r ∧ ab r < ab b ∧ (r ≠ 0 → (r < 0 ↔ a < 0)) ∧ ab q ≤ ab a ∧ (q < 0 → decide (a < 0) ≠ decide (b < 0)) := by
  have h1 := Int.mul_ediv_add_emod (ab a) (ab b)
  have h2 := Int.emod_nonneg (ab a) (Int.ne_of_gt (ab_pos hb))
  have h3 := Int.emod_lt_of_pos (ab a) (ab_pos hb)
  have h4 := Int.ediv_nonneg (ab_nn a) (ab_nn b)
  have h5 := Int.ediv_le_self (ab b) (ab_nn a)
  refine ⟨_, _, rfl, rfl, ?_⟩
  by_cases ca : a < 0 <;> by_cases cb : b < 0
  · have ea : ab a = -a := if_pos ca
    have eb : ab b = -b := if_pos cb
    have eq : quo a b = ab a / ab b := by
      unfold quo
      rw [if_pos (by simp [ca, cb])]
    rw [eq]
    generalize ab a / ab b = q at *
    generalize ab a % ab b = r at *
    rw [ea, eb] at h1
    rw [eb] at h3
    rw [ea] at h5
    have e : a - b * q = -r := by
      rw [Int.neg_mul] at h1
      omega
    rw [e, eb, ea]
    exact ⟨by unfold ab; split <;> omega, by intro _; omega, by unfold ab; split <;> omega, by intro h; exfalso; omega⟩
  · have ea : ab a = -a := if_pos ca
    have eb : ab b = b := if_neg cb
    have eq : quo a b = -(ab a / ab b) := by
      unfold quo
      rw [if_neg (by simp [ca, cb])]
    rw [eq]
    generalize ab a / ab b = q at *
    generalize ab a % ab b = r at *
    rw [ea, eb] at h1
    rw [eb] at h3
    rw [ea] at h5
    have e : a - b * -q = -r := by
      rw [Int.mul_neg]
      omega
    rw [e, eb, ea]
    exact ⟨by unfold ab; split <;> omega, by intro _; omega, by unfold ab; split <;> omega, by intro _; simp [ca, cb]⟩
  · have ea : ab a = a := if_neg ca
    have eb : ab b = -b := if_pos cb
    have eq : quo a b = -(ab a / ab b) := by
      unfold quo
      rw [if_neg (by simp [ca, cb])]
    rw [eq]
    generalize ab a / ab b = q at *
    generalize ab a % ab b = r at *
    rw [ea, eb] at h1
    rw [eb] at h3
    rw [ea] at h5
    have e : a - b * -q = r := by
      rw [Int.mul_neg]
      rw [Int.neg_mul] at h1
      omega
    rw [e, eb, ea]
    exact ⟨by unfold ab; split <;> omega, by intro _; omega, by unfold ab; split <;> omega, by intro _; simp [ca, cb]⟩
  · have ea : ab a = a := if_neg ca
    have eb : ab b = b := if_neg cb
    have eq : quo a b = ab a / ab b := by
      unfold quo
      rw [if_pos (by simp [ca, cb])]
    rw [eq]
    generalize ab a / ab b = q at *
    generalize ab a % ab b = r at *
    rw [ea, eb] at h1
    rw [eb] at h3
    rw [ea] at h5
    have e : a - b * q = r := by
      omega
    rw [e, eb, ea]
    exact ⟨by unfold ab; split <;> omega, by intro _; omega, by unfold ab; split <;> omega, by intro h; exfalso; omega⟩
theorem rest_wd {a b : Int} (hb : b ≠ 0) (wb : Wd b) : Wd (a - b * quo a b) := by
  obtain ⟨q, r, e1, e2, h, _⟩ := quo_rest a b hb
  rw [e1, e2]
  unfold ab Wd at *
  split at h <;> split at h <;> omega
theorem mp1 {a b : Int} (wa : Wd a) (hb : b ≠ 0) (wb : Wd b) : wrp (wrp (wrp (quo a b) * b) + wrp (a - b * quo a b)) = a := by
  rw [wrp_mul_l, wrp_add_l, wrp_add_r, Int.mul_comm]
  rw [show b * quo a b + (a - b * quo a b) = a by omega, wrp_id wa]
theorem mp2 {a b : Int} (hb : b ≠ 0) (wb : Wd b) : ¬ (ab (wrp (a - b * quo a b)) ≥ ab b) := by
  rw [wrp_id (rest_wd hb wb)]
  obtain ⟨q, r, e1, e2, h, _⟩ := quo_rest a b hb
  rw [e1, e2]
  omega
theorem mp3 {a b : Int} (hb : b ≠ 0) (wb : Wd b) (h : wrp (a - b * quo a b) ≠ 0) : decide (wrp (a - b * quo a b) < 0) = decide (a < 0) := by
  rw [wrp_id (rest_wd hb wb)] at h ⊢
  obtain ⟨q, r, e1, e2, _, h2, _⟩ := quo_rest a b hb
  rw [e1, e2] at h ⊢
  exact decide_eq_decide.mpr (h2 h)
theorem quo_neg (a b : Int) (hb : b ≠ 0) : quo a (-b) = -(quo a b) := by
  unfold quo
  have e : ab (-b) = ab b := by
    unfold ab
    split <;> split <;> omega
  rw [e]
  by_cases ca : a < 0 <;> by_cases cb : b < 0
  all_goals
    have cn : decide (-b < 0) = !decide (b < 0) := by
      by_cases c : b < 0
      · rw [decide_eq_true c, decide_eq_false (by omega)]
        rfl
      · rw [decide_eq_false c, decide_eq_true (by omega)]
        rfl
    rw [cn]
    simp [ca, cb]
theorem neg_wd {b : Int} (wb : Wd b) (h : b ≠ -2147483648) : wrp (-b) = -b := wrp_id (by unfold Wd at *; omega)
theorem mp4 {a b : Int} (hb : b ≠ 0) (wb : Wd b) (h : b ≠ -2147483648) : wrp (a - wrp (-b) * quo a (wrp (-b))) = wrp (a - b * quo a b) := by
  rw [neg_wd wb h, quo_neg a b hb, Int.neg_mul_neg]
theorem mp5 {a b : Int} (hb : b ≠ 0) (wb : Wd b) (h : b ≠ -2147483648) : wrp (quo a (wrp (-b))) = wrp (-(wrp (quo a b))) := by
  rw [neg_wd wb h, quo_neg a b hb, wrp_neg]
theorem wneg_ne {b : Int} (hb : b ≠ 0) (wb : Wd b) : wrp (-b) ≠ 0 := by
  unfold wrp Wd at *
  omega
theorem quo1 (a : Int) : quo a 1 = a := by
  have e : ab 1 = 1 := by decide
  unfold quo
  rw [e, Int.ediv_one]
  unfold ab
  by_cases c : a < 0
  · simp [c]
  · simp [c]
theorem mp6 {a : Int} (wa : Wd a) : wrp (quo a 1) = a := by rw [quo1, wrp_id wa]
theorem mp7 (a : Int) : wrp (a - 1 * quo a 1) = 0 := by
  rw [quo1, Int.one_mul, Int.sub_self]
  decide
theorem mp8 (a : Int) : wrp (quo a (-1)) = wrp (-a) := by rw [quo_neg a 1 (by decide), quo1]
/-! comparisons -/
theorem b2_wd (c : Bool) : Wd (b2 c) := by
  cases c <;> decide
theorem mo_or (c d : Bool) : Builtin.bitOr (b2 c) (b2 d) = b2 (c || d) := by
  cases c <;> cases d <;> decide
theorem mo_and (c d : Bool) : Builtin.bitAnd (b2 c) (b2 d) = b2 (c && d) := by
  cases c <;> cases d <;> decide
theorem mo_xor1 (c : Bool) : Builtin.bitXor (b2 c) 1 = b2 (!c) := by
  cases c <;> decide
theorem mo1 (a b : Int) : b2 (decide (a ≤ b)) = Builtin.bitOr (b2 (decide (a < b))) (b2 (decide (a = b))) := by
  rw [mo_or]
  congr 1
  rw [Bool.eq_iff_iff]
  simp
  omega
theorem mo2 (a b : Int) : b2 (!decide (a ≤ b)) = Builtin.bitXor (Builtin.bitOr (b2 (decide (a < b))) (b2 (decide (a = b)))) 1 := by
  rw [← mo1, mo_xor1]
theorem mo5 (a b : Int) : b2 (decide (b < a)) = b2 (!decide (a ≤ b)) := by
  congr 1
  rw [Bool.eq_iff_iff]
  simp
theorem mo6 (a b : Int) : Builtin.bitAnd (b2 (decide (a < b))) (b2 (decide (a = b))) = 0 := by
  rw [mo_and]
  have : (decide (a < b) && decide (a = b)) = false := by
    rw [Bool.eq_false_iff]
    simp
    omega
  rw [this]
  rfl
theorem mo9 (a b c : Int) : Builtin.bitAnd (Builtin.bitAnd (b2 (decide (a < b))) (b2 (decide (b < c)))) (b2 (!decide (a < c))) = 0 := by
  rw [mo_and, mo_and]
  have : ((decide (a < b) && decide (b < c)) && !decide (a < c)) = false := by
    rw [Bool.eq_false_iff]
    simp
    omega
  rw [this]
  rfl
end Cb

end

section
set_option maxRecDepth 100000
set_option maxHeartbeats 4000000
namespace Cb
open PySem PySem.Spec PyProof.Rows L2
def Bt (i : Int) : Prop := Builtin.Int.intBits i ≤ 1048576
/-- a pool stands at p -/
def PoolAt (H : Hp) (p : Addr) : Prop := ∃ s d n : Int, H p = some (.lst [.int s, .int d, .int n]) ∧ 0 ≤ s ∧ s < 2147483269 ∧ 0 ≤ d
def spCell (K : PySem.W.Frag) : Sp := fun vs H Q _ => ∃ (a : Addr) (ns : List Int) (k : Int), vs = [.ref a, .int k] ∧ SqL K H a (ns.map V.int) ∧ ns.length ≤ 63 ∧ 0 ≤ k ∧ k ≤ 1000 ∧ ∀ H' r, Same H H' → Q (.int r) H'
def spPool : Sp := fun vs H Q _ => ∃ i, vs = [.int i] ∧ ∀ H' p, Same H H' → H p = none → PoolAt H' p → Q (.ref p) H'
def spDraw : Sp := fun vs H Q _ => ∃ (p : Addr) (m : Int), vs = [.ref p, .int m] ∧ PoolAt H p ∧ 0 < m ∧ m < 2 ^ 200 ∧ ∀ H' r, SameBut p H H' → PoolAt H' p → 0 ≤ r → r < m → Q (.int r) H'
def spFigure : Sp := fun vs H Q _ => ∃ p, vs = [.ref p] ∧ PoolAt H p ∧ ∀ H' r, SameBut p H H' → PoolAt H' p → Wd r → Q (.int r) H'
/-- a def that answers True, whatever its pool draws -/
def spRight : Sp := fun vs H Q _ => ∃ p, vs = [.ref p] ∧ PoolAt H p ∧ ∀ H', SameBut p H H' → PoolAt H' p → Q (.bl true) H'
def spLaw (K : PySem.W.Frag) : Sp := fun vs H Q _ => ∃ (a : Addr) (ns : List Int), vs = [.ref a] ∧ SqL K H a (ns.map V.int) ∧ ns.length ≤ 63 ∧ (∀ z ∈ ns, Builtin.Int.intBits z ≤ 1048576) ∧ ∀ H', Q (.bl true) H'
theorem divp_small {i j : Int} (h : 0 < j) (h2 : j < 2 ^ 200) : CDivP i j := by
  refine ⟨h, ?_⟩
  unfold Builtin.divisionGoesByPylong
  have h3 : j.natAbs.log2 < 200 := by
    have h4 : j.natAbs < 2 ^ 200 := by omega
    exact (Nat.log2_lt (by omega)).mpr h4
  have h5 : (j == 0) = false := by
    simp
    omega
  have h6 : ¬ (j.natAbs.log2 / 30 + 1 > 300) := by omega
  simp [h5]
  intro h7
  omega
theorem PoolAt.sq {K : PySem.W.Frag} {H : Hp} {p : Addr} (h : PoolAt H p) : ∃ xs, SqL K H p xs := by
  obtain ⟨s, d, n, e, _⟩ := h
  exact ⟨_, .inl (.inl e)⟩
theorem PoolAt.same {H H' : Hp} {p : Addr} (h : PoolAt H p) (s : Same H H') : PoolAt H' p := by
  obtain ⟨x, d, n, e, r⟩ := h
  exact ⟨x, d, n, s _ _ e, r⟩
theorem PoolAt.ne {H : Hp} {p q : Addr} (h : PoolAt H p) (e : H q = none) : p ≠ q := by
  obtain ⟨x, d, n, e2, r⟩ := h
  exact ne_of_none e2 e
theorem SameBut.at {a b : Addr} {H H' : Hp} {o : HO} (s : SameBut a H H') (h : H b = some o) (n : b ≠ a) : H' b = some o := s b o n h
/-- an item of a written list of ints at a drawn place -/
theorem at_ints {P : Int → Prop} (ns : List Int) (h : ∀ x ∈ ns, P x) {r : Int} (h0 : 0 ≤ r) (h1 : r < (ns.length : Int)) : ∃ v, atI (ns.map V.int) r = some (.int v) ∧ P v := by
  have hk : r.toNat < ns.length := by omega
  have er : r = ((r.toNat : Nat) : Int) := by omega
  have q : atI (ns.map V.int) ((r.toNat : Nat) : Int) = some (.int ns[r.toNat]) := atI_nat (by rw [List.getElem?_map, List.getElem?_eq_getElem hk] <;> rfl)
  rw [← er] at q
  exact ⟨_, q, h _ (List.getElem_mem hk)⟩
theorem ne_false {x y : V} (h : x = y) : (!decide (x = y)) = false := by
  rw [decide_eq_true h]
  rfl
theorem eq_true {x y : V} (h : x = y) : decide (x = y) = true := decide_eq_true h
theorem ne_falseI {x y : Int} (h : x = y) : (!decide (V.int x = V.int y)) = false := ne_false (congrArg V.int h)
theorem eq_trueI {x y : Int} (h : x = y) : decide (V.int x = V.int y) = true := decide_eq_true (congrArg V.int h)
end Cb

end

section
set_option maxRecDepth 100000
set_option maxHeartbeats 4000000
namespace Cb
open PySem PySem.Spec PyProof.Rows L2
section
variable {K : PySem.W.Frag} {h : Heap} {mg : Str → Option Value} {x : Str}
theorem stands_mk {st : Stmt} {f : Addr} {od an : Option Addr} {sl : Array (Option Value)} {oc kV dc pm cd ct : Value} (X : K.In h) (G : h.Ns mainGlobals mg) (a : PySem.W.nsIn K mainGlobals x = some (some (.ref f)))
    (l : K.lookup f = some ⟨oc, od, .func (PySem.W.fnOf x x (defArgs st) (defBody st) (defScope st) .none kV dc pm an cd ct), sl⟩) (c : PySem.W.codeIn K cd x = true) (k : PySem.W.keepIn K (.ref f) = true) : Stands K mg x st :=
  ⟨f, _, PySem.W.mg_of X G a, fun_mk (st := st) l c k⟩
theorem globi_mk {i : Int} {t : Tok} (X : K.In h) (G : h.Ns mainGlobals mg) (a : PySem.W.nsIn K mainGlobals x = some (some (.int i t))) : GlobV mg x (.int i) := ⟨_, PySem.W.mg_of X G a, ⟨t, rfl⟩⟩
theorem globs_mk {s : Str} {t : Tok} (X : K.In h) (G : h.Ns mainGlobals mg) (a : PySem.W.nsIn K mainGlobals x = some (some (.str s t))) : GlobV mg x (.str s) := ⟨_, PySem.W.mg_of X G a, ⟨t, rfl⟩⟩
theorem globt_mk {p : Addr} {od : Option Addr} {its : Array Value} {n : Nat} {sl : Array (Option Value)} {xs : List V} (X : K.In h) (G : h.Ns mainGlobals mg) (a : PySem.W.nsIn K mainGlobals x = some (some (.ref p)))
    (l : K.lookup p = some ⟨.type "tuple", od, .seq its n, sl⟩) (v : Vals xs its.toList) (z : xs.length ≤ sizeLine) : GlobT K mg x xs :=
  ⟨p, PySem.W.mg_of X G a, fun H => .inr ⟨_, its, n, l, rfl, rfl, by
    have e := v.length
    have e2 : its.toList.length = its.size := Array.length_toList
    rw [e2] at e
    rw [← e]
    exact z, v⟩⟩
end
theorem Fun.bindsAll {K : PySem.W.Frag} {x qual p : Str} {st : Stmt} {f : Addr} {fd : FuncData} (F : Fun K x qual st f fd)
    (h : ∀ (kV doc pm : Value) (an : Option Addr) (cdv ct : Value) (v : Value), bindArgs (PySem.W.fnOf x qual (defArgs st) (defBody st) (defScope st) .none kV doc pm an cdv ct) ⟨[v], []⟩ = pure [(p, v)]) (s : Shared) (v : Value) : BindsTo s fd ⟨[v], []⟩ [(p, v)] := by
  obtain ⟨oc, od, kV, doc, pm, an, cdv, ct, osl, rfl, lk, hcd⟩ := F.ex
  exact .of_eq (h kV doc pm an cdv ct v)
end Cb

end

section
set_option maxRecDepth 100000
set_option maxHeartbeats 4000000
namespace Cb
open PySem PySem.Spec PyProof.Rows L2
/-- a positional promise, kept where no repr is under way -/
def FnG (P : Program) (w : World) (K : PySem.W.Frag) (mg : Str → Option Value) (base : Heap) (CX : CXT) (k : Nat) (f : Addr) (sp : Sp) : Prop :=
  ∀ (A : Around) (outer : List Env) (s : Shared) (H : Hp) (us : List Value) (vs : List V) (Q : VK) (E : XK), A.guards = some [] → Room k A → Env0 P w K mg base A outer s H → Vals vs us → sp vs H Q E →
    codeAny (model P w) A (.call (.ref f) ⟨us, []⟩) (CR CX outer P w H s Q E) s
def GivesG (P : Program) (w : World) (K : PySem.W.Frag) (mg : Str → Option Value) (base : Heap) (CX : CXT) (k : Nat) (x : Str) (sp : Sp) : Prop :=
  ∃ f, mg x = some (.ref f) ∧ PySem.W.keepIn K (.ref f) = true ∧ FnG P w K mg base CX k f sp
theorem Gives.g {P : Program} {w : World} {K : PySem.W.Frag} {mg : Str → Option Value} {base : Heap} {CX : CXT} {k : Nat} {x : Str} {sp : Sp} (F : Gives P w K mg base CX k x sp) : GivesG P w K mg base CX k x sp := by
  obtain ⟨f, hm, hk, F⟩ := F
  exact ⟨f, hm, hk, fun A outer s H us vs Q E _ hr e0 r h => F A outer s H us vs Q E hr e0 r h⟩
theorem GivesG.imp {P : Program} {w : World} {K : PySem.W.Frag} {mg : Str → Option Value} {base : Heap} {CX : CXT} {k : Nat} {x : Str} {sp sp' : Sp} (F : GivesG P w K mg base CX k x sp) (h : ∀ vs H Q E, sp' vs H Q E → sp vs H Q E) : GivesG P w K mg base CX k x sp' := by
  obtain ⟨f, hm, hk, F⟩ := F
  exact ⟨f, hm, hk, fun A outer s H us vs Q E hg hr e0 r z => F A outer s H us vs Q E hg hr e0 r (h _ _ _ _ z)⟩
section
variable {X : Cx} {CX : CXT} {k : Nat} {sp : Sp} {E : XK} {x : Str} {e : Expr} {es : List Expr} {t : TA} {p pos : Pos}
theorem run_fnG {pins : List (Addr × Obj)} {σ : L2.St} {H : Hp} {s : Shared} {f : Addr} {Q : VK} {us : List Value} {vs : List V} (F : FnG X.prog X.w X.K X.mg X.base CX k f sp) (hg : X.A.guards = some []) (hr : Room k X.A) (hx : Passes CX X E) (I : L2.Inv X pins σ H s) (r : Vals vs us) (h : sp vs H Q E) :
    codeAny (model X.prog X.w) X.A (.call (.ref f) ⟨us, []⟩) (fun r s' => match r with | .ok (.ret v) => EP X pins σ Q v s' | .ok _ => False | .error e => X.xe e s') s := by
  refine codeAny_mono (F X.A X.stack s H us vs Q E hg hr I.env0 r h) fun y s' hq => ?_
  match y, hq with
  | .error e, hq => exact hx pins σ H s e s' I hq
  | .ok (.ret u), hq => exact I.after hq
theorem pe_ownG (F : GivesG X.prog X.w X.K X.mg X.base CX k x sp) (hgd : X.A.guards = some []) (hr : Room k X.A) (hg : Gl X x) (hx : Passes CX X E) (ha : PA X (e :: es) t) (hdb : (x == ("__debug__" : Str)) = false := by decide)
    (he : starEach (e :: es) X.env = (false, eval e X.env) :: starEach es X.env := by rfl) (hpl : (backTo pos (starEach es X.env)).any (·.1) = false := by rfl) :
    PE X (.Call (.Name x p) (e :: es) [] pos) (tOwn sp E t) := by
  obtain ⟨f, hm, hk, F⟩ := F
  refine ⟨fun pins s σ H Q I h => ?_⟩
  refine wpAny_Call_Name_kw (ld_glob I hg hm ?_ hdb)
  exact PySem.W.callWith_K (h₀ := X.base) I.ok.mod.kin hk (thn (ha.run pos pins s σ H _ I h) fun us s1 ⟨vs, H1, I1, r, q⟩ => ⟨I1.kIn, wpAny_call (run_fnG F hgd hr hx I1 r q)⟩) he hpl
theorem pe_ownG0 (F : GivesG X.prog X.w X.K X.mg X.base CX k x sp) (hgd : X.A.guards = some []) (hr : Room k X.A) (hg : Gl X x) (hx : Passes CX X E) (hdb : (x == ("__debug__" : Str)) = false := by decide) :
    PE X (.Call (.Name x p) [] [] pos) (tOwn sp E tNil) := by
  obtain ⟨f, hm, hk, F⟩ := F
  refine ⟨fun pins s σ H Q I h => ?_⟩
  refine wpAny_Call_Name_kw (ld_glob I hg hm ?_ hdb)
  exact PySem.W.callWith_K0 I.kIn hk (wpAny_call (run_fnG F hgd hr hx I .nil h))
/-! ### repr -/
def rRepr (K : PySem.W.Frag) : List V → Hp → VK → Prop := fun vs H Q => ∃ (x : V) (d : PyData), vs = [x] ∧ Dp K H x d ∧ d.showable = true ∧ d.depth ≤ 64 ∧ d.shown.length ≤ sizeLine ∧ Q (.str d.shown) H
theorem dp_noDict {K : PySem.W.Frag} {H : Hp} : ∀ {x : V} {d : PyData}, Dp K H x d → d.hasDict = false := by
  intro x d h
  have m : (∀ {x : V} {d : PyData}, Dp K H x d → d.hasDict = false) := fun {x d} h => by
    refine Dp.rec (motive_1 := fun x d _ => d.hasDict = false) (motive_2 := fun xs ds _ => PyData.hasDictAll ds = false) ?_ ?_ ?_ ?_ ?_ ?_ ?_ ?_ h
    · rfl
    · intro b; rfl
    · intro b; rfl
    · intro b; rfl
    · intro a xs ds _ _ ih
      exact ih
    · intro a xs ds _ _ ih
      exact ih
    · rfl
    · intro v vs d ds _ _ ih1 ih2
      show (d.hasDict || PyData.hasDictAll ds) = false
      rw [ih1, ih2]
      rfl
  exact m h
theorem call_repr (hg : X.A.guards = some []) (hu : X.A.units + 200 < cLine) : CallR X (.builtin "repr") (rRepr X.K) := by
  intro pins s σ H xs us Q I r h
  obtain ⟨x, d, rfl, hd, hs, hdp, hz, q⟩ := h
  obtain ⟨u, rfl, rx⟩ := vals1 r
  cases hd with
  | non =>
    cases rx
    exact PySem.P.repr_of_none ⟨.str _, H, I.tok _, ⟨_, rfl⟩, q⟩
  | bl b =>
    cases rx
    exact PySem.P.repr_of_bool ⟨.str _, H, I.tok _, ⟨_, rfl⟩, q⟩
  | int i =>
    obtain ⟨t, rfl⟩ := rx
    exact PySem.P.repr_of_int (of_decide_eq_true hs) ⟨.str _, H, I.tok _, ⟨_, rfl⟩, q⟩
  | str z =>
    obtain ⟨t, rfl⟩ := rx
    exact PySem.P.repr_of_str ⟨.str _, H, I.tok _, ⟨_, rfl⟩, q⟩ hz
  | @lst a xs ds h1 h2 =>
    cases rx
    obtain ⟨as, rd⟩ := Dp.reads I _ _ _ (.lst h1 h2) rfl
    exact repr_of_reads' rd hs (PyData.noDict_hsm (dp_noDict (.lst h1 h2))) hg (by omega) (fun _ _ e => e) (fun h' t tk hk => ⟨.str _, H, I.kept hk, ⟨_, rfl⟩, q⟩) hz
  | @tup a xs ds h1 h2 =>
    cases rx
    obtain ⟨as, rd⟩ := Dp.reads I _ _ _ (.tup h1 h2) rfl
    exact repr_of_reads' rd hs (PyData.noDict_hsm (dp_noDict (.tup h1 h2))) hg (by omega) (fun _ _ e => e) (fun h' t tk hk => ⟨.str _, H, I.kept hk, ⟨_, rfl⟩, q⟩) hz
end
theorem units200 {k : Nat} {A : Around} (r : Room k A) : A.units + 200 < cLine := by
  have := r.un
  omega
/-! ### calls by keywords -/
/-- the promise of a call whose last arguments are given by the names ks -/
def GivesK (P : Program) (w : World) (K : PySem.W.Frag) (mg : Str → Option Value) (base : Heap) (CX : CXT) (k : Nat) (x : Str) (ks : List Str) (sp : Sp) : Prop :=
  ∃ f, mg x = some (.ref f) ∧ PySem.W.keepIn K (.ref f) = true ∧ ∀ (A : Around) (outer : List Env) (s : Shared) (H : Hp) (us ws : List Value) (vs zs : List V) (Q : VK) (E : XK), Room k A → Env0 P w K mg base A outer s H → Vals vs us → Vals zs ws → ws.length = ks.length → sp (vs ++ zs) H Q E →
    codeAny (model P w) A (.call (.ref f) ⟨us, ks.zip ws⟩) (CR CX outer P w H s Q E) s
theorem givesK_of {P : Program} {w : World} {K : PySem.W.Frag} {mg : Str → Option Value} {base : Heap} {CX : CXT} {k : Nat} {x : Str} {sp : Sp} {f : Addr} {fd : FuncData} {ps ks : List Str} (hm : mg x = some (.ref f)) (hk : PySem.W.keepIn K (.ref f) = true) (F : FnOk P w K mg base CX k f fd ps sp)
    (b : ∀ us ws : List Value, ws.length = ks.length → us.length + ws.length = ps.length → bindArgs fd ⟨us, ks.zip ws⟩ = pure (ps.zip (us ++ ws))) : GivesK P w K mg base CX k x ks sp :=
  ⟨f, hm, hk, fun A outer s H us ws vs zs Q E hr e0 r rz hl hsp => by
    have hl2 := F.len _ H Q E hsp
    have r2 : Vals (vs ++ zs) (us ++ ws) := r.append rz
    exact F.run A outer s H _ (us ++ ws) (vs ++ zs) Q E hr e0 (.of_eq (b us ws hl (by rw [← List.length_append, ← r2.length]; exact hl2))) r2 hsp⟩
def tOwnK (sp : Sp) (E : XK) (t tk : TA) : TE := fun σ H Q => t σ H fun vs H1 => tk σ H1 fun zs H2 => sp (vs ++ zs) H2 Q E
section
variable {X : Cx} {CX : CXT} {k : Nat} {sp : Sp} {E : XK} {x : Str} {e : Expr} {es : List Expr} {kws : List Keyword} {ks : List Str} {t tk : TA} {p pos : Pos}
theorem pe_ownK0 (F : GivesK X.prog X.w X.K X.mg X.base CX k x ks sp) (hr : Room k X.A) (hg : Gl X x) (hx : Passes CX X E) (hkw : PK X kws tk) (hlen : kws.length = ks.length := by rfl) (hall : (backToKw pos (keywordEach kws X.env)).all (·.1.isSome) = true := by rfl) (hks : (backToKw pos (keywordEach kws X.env)).filterMap (·.1) = ks := by rfl)
    (hdb : (x == ("__debug__" : Str)) = false := by decide) (hpl : ((backTo pos (starEach [] X.env)).any (·.1) || (backToKw pos (keywordEach kws X.env)).any (·.1.isNone)) = false := by rfl) (hw : (backToKw pos (keywordEach kws X.env)).length = ks.length := by rfl) :
    PE X (.Call (.Name x p) [] kws pos) (fun σ H Q => tk σ H fun zs H2 => zs.length = ks.length ∧ sp zs H2 Q E) := by
  obtain ⟨f, hm, hk, F⟩ := F
  refine ⟨fun pins s σ H Q I h => ?_⟩
  refine wpAny_Call_Name_kw (ld_glob I hg hm ?_ hdb)
  refine PySem.W.callWith_KW0 (h₀ := X.base) I.ok.mod.kin hk hall (thn (hkw.run pos pins s σ H _ I h) fun ws s2 ⟨zs, H2, I2, rz, hzl, q2⟩ => ?_) hpl
  refine ⟨I2.kIn, ?_⟩
  rw [hks]
  refine wpAny_call (codeAny_mono (F X.A X.stack s2 H2 [] ws [] zs Q E hr I2.env0 .nil rz (by rw [← rz.length]; exact hzl) q2) fun y s' hq => ?_)
  match y, hq with
  | .error e, hq => exact hx pins σ H2 s2 e s' I2 hq
  | .ok (.ret u), hq => exact I2.after hq
end
/-! ### a def by its body -/
theorem givesG_fun {P : Program} {w : World} {K : PySem.W.Frag} {mg : Str → Option Value} {base : Heap} {k : Nat} {x : Str} {st : Stmt} {N ps : List Str} {sp : Sp} (T : Stands K mg x st) (S : FnScope N ps (defScope st))
    (hb : ∀ (kV doc pm : Value) (an : Option Addr) (cdv ct : Value) (us : List Value), us.length = ps.length → bindArgs (PySem.W.fnOf x x (defArgs st) (defBody st) (defScope st) .none kV doc pm an cdv ct) ⟨us, []⟩ = pure (ps.zip us))
    (len : ∀ vs H Q E, sp vs H Q E → vs.length = ps.length)
    (hbody : ∀ (f : Addr) (cdv : Value) (A : Around) (outer : List Env) (s : Shared) (H : Hp) (vs : List V) (Q : VK) (E : XK), A.guards = some [] → Room k (A.deeper (envOfC x (defScope st) s.heap.objs.size f cdv)) → sp vs H Q E →
      ∃ t, PSs (cxOf CX0 P w K mg base N x (defScope st) f cdv A outer s H E).nox (defBody st) t ∧ t { nx := fun _ H' => Q .non H', rt := Q } (start N vs) H) :
    GivesG P w K mg base CX0 (k + 1) x sp := by
  obtain ⟨f, fd, hm, F⟩ := T
  have kp := F.kp
  obtain ⟨oc, od, kV, doc, pm, an, cdv, ct, osl, rfl, lk, hcd⟩ := F.ex
  refine ⟨f, hm, kp, fun A outer s H us vs Q E hg hr e0 r hsp => ?_⟩
  have hl := len vs H Q E hsp
  refine StX.run_bnd lk hcd S hr e0 (G := fun xs H2 => xs = vs ∧ H2 = H) (fun A' Ex Q' h => ?_) (fun s2 H2 xs he hr' => ?_)
  · rw [hb kV doc pm an cdv ct us (by rw [← r.length]; exact hl)]
    exact wpAny_pure (h s H vs us e0 Un.refl rfl (fun _ _ z => z) r hl ⟨rfl, rfl⟩)
  · obtain ⟨rfl, rfl⟩ := he
    obtain ⟨t, h, q⟩ := hbody f cdv A outer s2 H2 xs Q E hg hr' hsp
    exact ⟨t, h.nox, q⟩
end Cb

end

section
set_option maxRecDepth 100000
set_option maxHeartbeats 4000000
namespace Cb
open PySem PySem.Spec PyProof.Rows L2
/-- the heap in which the script alone is tracked (not at all, if it is the module's own) -/
def scriptHp (own : Bool) (a : Addr) (vs : List Value) (ns : List Int) : Hp := fun b => if own = false ∧ b = a then some (.frz { cls := .type "list", data := .seq vs.toArray } (.lst (ns.map V.int))) else none
theorem scriptHp_some {own : Bool} {a b : Addr} {vs : List Value} {ns : List Int} {u : HO} (h : scriptHp own a vs ns b = some u) : own = false ∧ b = a ∧ u = .frz { cls := .type "list", data := .seq vs.toArray } (.lst (ns.map V.int)) := by
  unfold scriptHp at h
  split at h
  · rename_i c
    exact ⟨c.1, c.2, (Option.some.inj h).symm⟩
  · cases h
section
variable {P : Program} {w : World} {K : PySem.W.Frag} {mg mb : Str → Option Value} {CX : CXT} {k : Nat} {fa a : Addr} {sp : Sp} {s₁ : Shared} {vs : List Value} {ns : List Int}
theorem law_callG (KX : K.In s₁.heap) (hns : s₁.heap.Ns mainGlobals mg) (hb : s₁.heap.Ns builtinsNs mb) (hbb : ∀ x : Str, x ≠ "__name__" → mb x = bootBuiltins x) (hlim : s₁.heap.NoLimit) (hg : s₁.gens = #[])
    (ha : s₁.heap.get? a = some { cls := .type "list", data := .seq vs.toArray }) (hi : IntsAre vs ns) (hl : ns.length ≤ sizeLine) (hr : Room k callerA)
    (F : ∀ base : Heap, K.In base → base.Ns mainGlobals mg → FnG P w K mg base CX k fa sp)
    (hsp : ∀ H : Hp, SqL K H a (ns.map V.int) → sp [.ref a] H (fun v _ => v = .bl true) fun _ _ _ => False)
    (hCX : ∀ H e s', CX [] H s₁ (fun _ _ _ => False) e s' → False) :
    codeAny (model P w) callerA (.call (.ref fa) ⟨[.ref a], []⟩) (fun r s' => r = .ok (.ret (.bool true)) ∧ OldK s₁.heap s'.heap ∧ s'.os = s₁.os ∧ AllBare s'.gens) s₁ := by
  have lenV := hi.length
  -- is the script one of the module's own objects?
  obtain ⟨own, hown⟩ : ∃ own : Bool, (own = true → ∃ o, K.lookup a = some o) ∧ (own = false → K.lookup a = none) := by
    cases hk : K.lookup a with
    | some o => exact ⟨true, fun _ => ⟨o, rfl⟩, fun z => by cases z⟩
    | none => exact ⟨false, (fun z => by cases z), fun _ => rfl⟩
  generalize eH : scriptHp own a vs ns = H
  have hH : ∀ b u, H b = some u → own = false ∧ b = a ∧ u = .frz { cls := .type "list", data := .seq vs.toArray } (.lst (ns.map V.int)) := fun b u z => scriptHp_some (by rw [eH]; exact z)
  have hS : SqL K H a (ns.map V.int) := by
    cases own with
    | false => exact .inl (.inr ⟨_, by rw [← eH]; exact if_pos ⟨rfl, rfl⟩⟩)
    | true =>
      obtain ⟨o, ho⟩ := hown.1 rfl
      have e := KX a o ho
      rw [ha] at e
      cases e
      exact .inr ⟨_, vs.toArray, _, ho, rfl, rfl, rfl, by rw [List.size_toArray, lenV]; exact hl, by simpa using vals_ints hi⟩
  have hok : HOk P w H s₁.heap := fun b u z => by
    obtain ⟨_, rfl, rfl⟩ := hH b u z
    exact ⟨ha, by rw [List.length_map]; exact hl, vs, _, vals_ints hi, ha⟩
  have stay : ∀ {b : Addr} {o : Obj}, s₁.heap.get? b = some o → (b = a → own = true) → (hidT s₁.heap H).get? b = some o := fun {b o} e n => hidT_get e (by
    cases q : H b with
    | none => rfl
    | some u =>
      obtain ⟨z1, z2, _⟩ := hH b u q
      rw [n z2] at z1
      cases z1)
  have nsK : ∀ {b : Addr} {m : Str → Option Value}, s₁.heap.Ns b m → (hidT s₁.heap H).Ns b m := fun {b m} ⟨o, es, ep, e, d, r⟩ => ⟨o, es, ep, hidT_get e (by
    cases q : H b with
    | none => rfl
    | some u =>
      obtain ⟨_, z2, _⟩ := hH b u q
      subst z2
      rw [ha] at e
      cases e
      cases d), d, r⟩
  have hKb : K.In (hidT s₁.heap H) := fun b o e => stay (KX b o e) (fun z => by
    cases own with
    | true => rfl
    | false =>
      rw [z, hown.2 rfl] at e
      cases e)
  have hM : Mod K mg (hidT s₁.heap H) := ⟨hKb, nsK hns, ⟨mb, nsK hb, hbb⟩, by
    obtain ⟨mc, h1, h2⟩ := hlim
    exact ⟨mc, nsK h1, h2⟩⟩
  have e0 : Env0 P w K mg (hidT s₁.heap H) callerA [] s₁ H := ⟨rfl, hM, fun b o e => of_hidT e, Nat.le_of_eq (hidT_size _ _), trivial, fun b hb => absurd (show b ∈ ([] : List Addr) from hb) (by simp), hok, .of_eq hg⟩
  refine codeAny_mono (F _ hKb (nsK hns) callerA [] s₁ H [.ref a] [.ref a] _ _ rfl hr e0 (.cons rfl .nil) (hsp H hS)) fun r s' h => ?_
  match r, h with
  | .error e, h => exact (hCX H e s' h).elim
  | .ok (.ret u), h =>
    obtain ⟨v, H', os, bare, un, hok', r', q⟩ := h
    have q' : v = .bl true := q
    subst q'
    obtain rfl : u = Value.bool true := r'
    refine ⟨rfl, OldK.of_keep fun b o e => ?_, os, bare⟩
    cases q : H b with
    | none => exact un.keep b o e q (by intro z; exact absurd (show b ∈ ([] : List Addr) from z) (by simp)) (by simp)
    | some u =>
      obtain ⟨_, z2, z3⟩ := hH b u q
      subst z3
      have z4 := hok' b _ (un.frzs b _ _ q)
      subst z2
      rw [ha] at e
      cases e
      exact z4.1
end
theorem walk_ofG {l : PySem.W.OpenLaw} {n k : Nat} {q : Program} {loose : List Str} {XP : (Str → Option Value) → Heap → Prop} {YP : World → Heap → Prop} {d : DefRec} {K : Params → PySem.W.Frag} {CX : World → CXT} {sp : World → Sp}
    (hn : l.most = some n) (hn2 : n ≤ sizeLine) (hdf : d.params.defaults = []) (hr : Room k callerA)
    (hY : ∀ (w : World) (h : Heap), YP w h → (K w.params).In h)
    (F : ∀ (w : World) (mg : Str → Option Value) (fa : Addr) (h : Heap), (K w.params).In h → h.Ns mainGlobals mg → mg d.name = some (.ref fa) →
      ∀ base : Heap, (K w.params).In base → base.Ns mainGlobals mg → FnG l.prog w (K w.params) mg base (CX w) k fa (sp w))
    (hsp : ∀ (w : World) (H : Hp) (a : Addr) (ns : List Int), ns.length ≤ n → (∀ z ∈ ns, Builtin.Int.intBits z ≤ 1048576) → SqL (K w.params) H a (ns.map V.int) → sp w [.ref a] H (fun v _ => v = .bl true) fun _ _ _ => False)
    (hCX : ∀ (w : World) (H : Hp) (s : Shared) (e : Value) (s' : Shared), CX w [] H s (fun _ _ _ => False) e s' → False) :
    PySem.W.WalkO q loose XP YP l.row.toRowW d [] (fun f vs => PySem.call f vs) := by
  refine Att.attach_callB hn hdf fun w s₀ s₁ mg mb fa o pm cd doc a vs ns G Y ho hd hcd hmg hobj hints hlen hbits hg => ?_
  have KX := hY w _ Y
  exact law_callG KX G.T.g G.T.b G.T.builtins G.T.nolimit hg hobj hints (Nat.le_trans hlen hn2) hr (F w mg fa _ KX G.T.g hmg) (fun H hS => hsp w H a ns hlen hbits hS) fun H e s' => hCX w H s₁ e s'
end Cb

end

section
set_option maxRecDepth 100000
set_option maxHeartbeats 4000000
namespace Cb
open PySem PySem.Spec PyProof.Rows L2
/-- the datum of a flat value -/
def dV : V → PyData
  | .bl b => .bool b
  | .int i => .int i
  | .str x => .str x
  | _ => .none
/-- None, a truth, a number of moderate size -/
def smallV : V → Bool
  | .non => true
  | .bl _ => true
  | .int i => decide (i.natAbs < 2 ^ 200)
  | _ => false
theorem dp_flat {K : PySem.W.Frag} {H : Hp} : ∀ {x : V}, flatV x = true → Dp K H x (dV x)
  | .non, _ => .non
  | .bl b, _ => .bl b
  | .int i, _ => .int i
  | .str x, _ => .str x
theorem small_flat : ∀ {x : V}, smallV x = true → flatV x = true
  | .non, _ => rfl
  | .bl _, _ => rfl
  | .int _, _ => rfl
theorem dpAll_flat {K : PySem.W.Frag} {H : Hp} : ∀ {xs : List V}, xs.all flatV = true → DpAll K H xs (xs.map dV)
  | [], _ => .nil
  | x :: xs, h => by
    have h' := Bool.and_eq_true_iff.mp (show (flatV x && xs.all flatV) = true from h)
    exact .cons (dp_flat h'.1) (dpAll_flat h'.2)
theorem small_show : ∀ {x : V}, smallV x = true → (dV x).showable = true ∧ (dV x).shown.length ≤ 300
  | .non, _ => ⟨rfl, by decide⟩
  | .bl b, _ => ⟨rfl, by cases b <;> decide⟩
  | .int i, h => by
    have h1 : i.natAbs < 2 ^ 200 := of_decide_eq_true h
    have h2 : i.natAbs.log2 < 200 := by
      by_cases c : i.natAbs = 0
      · rw [c]
        decide
      · exact (Nat.log2_lt c).mpr h1
    refine ⟨decide_eq_true (by omega), ?_⟩
    have h3 := int_text_length_le (a := i) (k := 200) (by decide) h2
    show (Str.ofString (toString i)).length ≤ 300
    rw [PySem.ofString_length]
    omega
theorem all_show : ∀ {xs : List V}, xs.all smallV = true → PyData.showableAll (xs.map dV) = true ∧ (∀ t ∈ PyData.shownAll (xs.map dV), t.length ≤ 300) ∧ (PyData.shownAll (xs.map dV)).length = xs.length
  | [], _ => ⟨rfl, (fun _ h => nomatch h), rfl⟩
  | x :: xs, h => by
    have h' := Bool.and_eq_true_iff.mp (show (smallV x && xs.all smallV) = true from h)
    have a := small_show h'.1
    have b := all_show h'.2
    refine ⟨?_, ?_, ?_⟩
    · show ((dV x).showable && PyData.showableAll (xs.map dV)) = true
      rw [a.1, b.1]
      rfl
    · intro t ht
      rcases List.mem_cons.mp ht with e | e
      · rw [e]
        exact a.2
      · exact b.2.1 t e
    · show (PyData.shownAll (xs.map dV)).length + 1 = xs.length + 1
      rw [b.2.2]
theorem textFrom_bound : ∀ (ts : List Str) (k : Nat) (acc : Str), (∀ t ∈ ts, t.length ≤ 300) → (textFrom k acc ts).length ≤ acc.length + 302 * ts.length
  | [], k, acc, _ => by
    show acc.length ≤ _
    exact Nat.le_add_right _ _
  | t :: r, k, acc, h => by
    have ih := textFrom_bound r (k + 1) (acc ++ (if k > 0 then ", " else "" : String) ++ t) (fun x hx => h x (List.mem_cons_of_mem _ hx))
    have h1 := h t (List.mem_cons_self ..)
    show (textFrom (k + 1) (acc ++ (if k > 0 then ", " else "" : String) ++ t) r).length ≤ _
    have e1 : (acc ++ Str.ofString (if k > 0 then ", " else "" : String) ++ t).length ≤ acc.length + 2 + t.length := by
      rw [PySem.Str.length_append, PySem.Str.length_append]
      have : (Str.ofString (if k > 0 then ", " else "" : String)).length ≤ 2 := by
        split <;> decide
      omega
    rw [List.length_cons]
    omega
theorem flist_len {xs : List V} (h : xs.all smallV = true) (hn : xs.length ≤ 1000) : (PyData.list (xs.map dV)).shown.length ≤ sizeLine := by
  have a := all_show h
  show (listText (PyData.shownAll (xs.map dV))).length ≤ _
  unfold listText
  rw [PySem.Str.length_append]
  have b := textFrom_bound (PyData.shownAll (xs.map dV)) 0 "[" a.2.1
  rw [a.2.2] at b
  have e1 : (Str.ofString "[").length = 1 := by decide
  have e2 : (Str.ofString "]").length = 1 := by decide
  have e3 : (400000 : Nat) ≤ sizeLine := by decide
  rw [e1] at b
  rw [e2]
  omega
theorem depth_flat : ∀ xs : List V, PyData.depthAll (xs.map dV) ≤ 1
  | [] => Nat.zero_le _
  | x :: xs => by
    have a : (dV x).depth ≤ 1 := by
      cases x <;> exact (by decide : (0 : Nat) ≤ 1)
    have b := depth_flat xs
    show max (dV x).depth (PyData.depthAll (xs.map dV)) ≤ 1
    omega
/-- repr of a flat list -/
theorem repr_list {K : PySem.W.Frag} {H : Hp} {a : Addr} {xs : List V} {Q : VK} (h : SqL K H a xs) (hs : xs.all smallV = true) (hn : xs.length ≤ 1000) (q : Q (.str (PyData.list (xs.map dV)).shown) H) : rRepr K [.ref a] H Q := by
  refine ⟨.ref a, .list (xs.map dV), rfl, .lst h (dpAll_flat ?_), (all_show hs).1, ?_, flist_len hs hn, q⟩
  · rw [List.all_eq_true] at hs ⊢
    exact fun x hx => small_flat (hs x hx)
  · have := depth_flat xs
    show _ + 1 ≤ 64
    omega
theorem repr_flat {K : PySem.W.Frag} {H : Hp} {x : V} {Q : VK} (hs : smallV x = true) (q : Q (.str (dV x).shown) H) : rRepr K [x] H Q :=
  ⟨x, dV x, rfl, dp_flat (small_flat hs), (small_show hs).1, by cases x <;> exact (by decide : (0 : Nat) ≤ 64), Nat.le_trans (small_show hs).2 (by decide), q⟩
theorem dpL {K : PySem.W.Frag} {H : Hp} {a : Addr} {xs : List V} (h : SqL K H a xs) (hs : xs.all smallV = true) : Dp K H (.ref a) (.list (xs.map dV)) := .lst h (dpAll_flat (by
  rw [List.all_eq_true] at hs ⊢
  exact fun x hx => small_flat (hs x hx)))
theorem shL {xs : List V} (hs : xs.all smallV = true) : (PyData.list (xs.map dV)).showable = true := (all_show hs).1
theorem dth1 (x : V) : (dV x).depth ≤ 64 := by cases x <;> exact (by decide : (0 : Nat) ≤ 64)
theorem dthL (xs : List V) : (PyData.list (xs.map dV)).depth ≤ 64 := by
  have := depth_flat xs
  show _ + 1 ≤ 64
  omega
/-- the datum of a flat list, by what repr asks of it -/
theorem rpk (xs : List V) (hs : xs.all smallV = true) (hn : xs.length ≤ 1000) : ∃ D : PyData, (∀ (K : PySem.W.Frag) (H : Hp) (a : Addr), SqL K H a xs → Dp K H (.ref a) D) ∧ D.showable = true ∧ D.depth ≤ 64 ∧ D.shown.length ≤ sizeLine :=
  ⟨.list (xs.map dV), fun _ _ _ h => dpL h hs, shL hs, dthL xs, flist_len hs hn⟩
theorem rpf (x : V) (hs : smallV x = true) : ∃ D : PyData, (∀ (K : PySem.W.Frag) (H : Hp), Dp K H x D) ∧ D.showable = true ∧ D.depth ≤ 64 ∧ D.shown.length ≤ sizeLine :=
  ⟨dV x, fun _ _ => dp_flat (small_flat hs), (small_show hs).1, dth1 x, Nat.le_trans (small_show hs).2 (by decide)⟩
theorem no_before {ys : List V} {y : V} {j : Nat} (h : ((ys.take j).all fun z => !eqV z y) = true) : ∀ (m : Nat) (z : V), m < j → ys[m]? = some z → eqV z y = false := by
  intro m z hm hz
  have h1 : (ys.take j)[m]? = some z := by
    rw [List.getElem?_take, if_pos hm]
    exact hz
  have h2 := List.all_eq_true.mp h z (List.mem_of_getElem? h1)
  simpa using h2
/-! ### the law's own operations -/
theorem mask32 (x : Int) : band x 4294967295 = x % 4294967296 := by
  have e : (4294967295 : Int) = ((4294967295 : Nat) : Int) := rfl
  have m : ∀ n : Nat, n &&& 4294967295 = n % 4294967296 := fun n => Nat.and_two_pow_sub_one_eq_mod n 32
  rcases int_two x with ⟨n, rfl⟩ | ⟨n, rfl⟩
  · rw [e, band_pp, m]
    omega
  · rw [e, band_np, Nat.and_comm, m]
    omega
theorem band_mask (a b : Int) : band (a % 4294967296) (b % 4294967296) = band a b % 4294967296 := by
  rw [← mask32 a, ← mask32 b, ← mask32 (band a b)]
  rw [band_assoc, ← band_assoc 4294967295 b 4294967295, band_cm 4294967295 b, band_assoc b, band_self, ← band_assoc]
theorem do_and {a b : Int} (ha : Wd a) (hb : Wd b) : wrp (Builtin.bitAnd (a % 4294967296) (b % 4294967296)) = Builtin.bitAnd a b := by
  have e := band_mask a b
  have w := band_wd ha hb
  show wrp (band (a % 4294967296) (b % 4294967296)) = band a b
  rw [e]
  generalize band a b = x at w ⊢
  unfold wrp Wd at *
  omega
theorem do_or {a b : Int} (ha : Wd a) (hb : Wd b) : wrp (Builtin.bitOr (a % 4294967296) (b % 4294967296)) = Builtin.bitOr a b := by
  have e := band_mask a b
  have w := bor_wd ha hb
  rw [bor_eq, e]
  rw [bor_eq] at w ⊢
  generalize band a b = x at w ⊢
  unfold wrp Wd at *
  omega
theorem do_xor {a b : Int} (ha : Wd a) (hb : Wd b) : wrp (Builtin.bitXor (a % 4294967296) (b % 4294967296)) = Builtin.bitXor a b := by
  have e := band_mask a b
  have w := bxor_wd ha hb
  rw [bxor_eq, e]
  rw [bxor_eq] at w ⊢
  generalize band a b = x at w ⊢
  unfold wrp Wd at *
  omega
theorem do_shl (a b : Int) : wrp (a % 4294967296 * 2 ^ (b % 4294967296 % 32).toNat) = wrp (a * 2 ^ (b % 32).toNat) := by
  have e : b % 4294967296 % 32 = b % 32 := by omega
  rw [e]
  have e2 : a = a % 4294967296 + 4294967296 * (a / 4294967296) := by omega
  generalize a % 4294967296 = u at *
  generalize a / 4294967296 = k at *
  subst e2
  rw [Int.add_mul]
  exact (wrp_of (k * 2 ^ (b % 32).toNat) (by rw [Int.mul_assoc])).symm
theorem do_shr {a : Int} (ha : Wd a) (b : Int) : wrp (a / 2 ^ (b % 4294967296 % 32).toNat) = a / 2 ^ (b % 32).toNat := by
  have e : b % 4294967296 % 32 = b % 32 := by omega
  rw [e, wrp_id (shr_wd ha _)]
theorem fit_eq (i : Int) : (i + 2147483648) % 4294967296 - 2147483648 = wrp i := by
  unfold wrp
  omega
def spFit : Sp := fun vs H Q _ => ∃ i, vs = [.int i] ∧ Q (.int (wrp i)) H
def spDo : Sp := fun vs H Q _ => ∃ (o : Op) (a b : Int), vs = [.str o.name, .int a, .int b] ∧ Wd a ∧ Wd b ∧ ∀ H', Same H H' → Q (res o a b) H'
theorem res_small (o : Op) {a b : Int} (ha : Wd a) (hb : Wd b) : smallV (res o a b) = true := by
  have w : ∀ {i : Int}, Wd i → smallV (.int i) = true := fun {i} h => decide_eq_true (by unfold Wd at h; omega)
  cases o
  case div =>
    by_cases c : b = 0
    · rw [show res .div a b = .non from if_pos c]
      rfl
    · rw [res_div c]
      exact w (wrp_wd _)
  case rem =>
    by_cases c : b = 0
    · rw [show res .rem a b = .non from if_pos c]
      rfl
    · rw [res_rem c]
      exact w (wrp_wd _)
  all_goals first
    | exact w (wrp_wd _)
    | exact w (band_wd ha hb)
    | exact w (bor_wd ha hb)
    | exact w (bxor_wd ha hb)
    | exact w (shr_wd ha _)
    | exact w (b2_wd _)
end Cb

end

section
set_option maxRecDepth 100000
set_option maxHeartbeats 4000000
namespace Cb
open PySem PySem.Spec PyProof.Rows L2
inductive Pat where
  | word (i : Int) | unk (n : Nat) | un (o : Op) (p : Pat) | bin (o : Op) (p q : Pat)
def Op.quiet : Op → Bool
  | .div => false | .rem => false | .neg => false | .not => false | _ => true
/-- the pattern p stands at v -/
def PatAt (H : Hp) : V → Pat → Prop
  | v, .word i => ∃ a, v = .ref a ∧ H a = some (.tup [.str "word", .int i])
  | v, .unk n => ∃ a, v = .ref a ∧ H a = some (.tup [.str "unknown", .int (n : Int)])
  | v, .un o p => ∃ a x, v = .ref a ∧ H a = some (.tup [.str o.name, x]) ∧ PatAt H x p
  | v, .bin o p q => ∃ a x y, v = .ref a ∧ H a = some (.tup [.str o.name, x, y]) ∧ PatAt H x p ∧ PatAt H y q
/-- words are words, unknowns below m, operations with as many operands as they take, quiet -/
def Pat.ok (m : Nat) : Pat → Prop
  | .word i => Wd i
  | .unk n => n < m
  | .un o p => o.single = true ∧ p.ok m
  | .bin o p q => o.quiet = true ∧ p.ok m ∧ q.ok m
def Pat.depth : Pat → Nat
  | .word _ => 1
  | .unk _ => 1
  | .un _ p => p.depth + 1
  | .bin _ p q => max p.depth q.depth + 1
def Pat.unks : Pat → List Int
  | .word _ => []
  | .unk n => [(n : Int)]
  | .un _ p => p.unks
  | .bin _ p q => p.unks ++ q.unks
/-- the unknowns are below k -/
def Pat.bel (k : Nat) : Pat → Prop
  | .word _ => True
  | .unk n => n < k
  | .un _ p => p.bel k
  | .bin _ p q => p.bel k ∧ q.bel k
def asI : V → Int
  | .int i => i
  | _ => 0
def Pat.val (ns : List Int) : Pat → Int
  | .word i => i
  | .unk n => ns.getD n 0
  | .un o p => asI (res o (p.val ns) (p.val ns))
  | .bin o p q => asI (res o (p.val ns) (q.val ns))
theorem Pat.depth_pos : ∀ p : Pat, 1 ≤ p.depth
  | .word _ => Nat.le_refl _
  | .unk _ => Nat.le_refl _
  | .un _ _ => Nat.le_add_left _ _
  | .bin _ _ _ => Nat.le_add_left _ _
theorem PatAt.same {H H' : Hp} (s : Same H H') : ∀ {p : Pat} {v : V}, PatAt H v p → PatAt H' v p
  | .word _, _, ⟨a, e, h⟩ => ⟨a, e, s _ _ h⟩
  | .unk _, _, ⟨a, e, h⟩ => ⟨a, e, s _ _ h⟩
  | .un _ _, _, ⟨a, x, e, h, hp⟩ => ⟨a, x, e, s _ _ h, PatAt.same s hp⟩
  | .bin _ _ _, _, ⟨a, x, y, e, h, hp, hq⟩ => ⟨a, x, y, e, s _ _ h, PatAt.same s hp, PatAt.same s hq⟩
theorem tup_ne_pool {H : Hp} {p a : Addr} {xs : List V} (h : PoolAt H p) (e : H a = some (.tup xs)) : a ≠ p := by
  obtain ⟨x, d, n, e2, _⟩ := h
  exact ne_of e e2 (by intro z; cases z)
theorem PatAt.but {H H' : Hp} {c : Addr} (hc : PoolAt H c) (s : SameBut c H H') : ∀ {p : Pat} {v : V}, PatAt H v p → PatAt H' v p
  | .word _, _, ⟨a, e, h⟩ => ⟨a, e, s.at h (tup_ne_pool hc h)⟩
  | .unk _, _, ⟨a, e, h⟩ => ⟨a, e, s.at h (tup_ne_pool hc h)⟩
  | .un _ _, _, ⟨a, x, e, h, hp⟩ => ⟨a, x, e, s.at h (tup_ne_pool hc h), PatAt.but hc s hp⟩
  | .bin _ _ _, _, ⟨a, x, y, e, h, hp, hq⟩ => ⟨a, x, y, e, s.at h (tup_ne_pool hc h), PatAt.but hc s hp, PatAt.but hc s hq⟩
theorem Pat.ok_mono {m k : Nat} (h : m ≤ k) : ∀ {p : Pat}, p.ok m → p.ok k
  | .word _, q => q
  | .unk _, q => Nat.lt_of_lt_of_le q h
  | .un _ _, q => ⟨q.1, Pat.ok_mono h q.2⟩
  | .bin _ _ _, q => ⟨q.1, Pat.ok_mono h q.2.1, Pat.ok_mono h q.2.2⟩
theorem Pat.bel_of {m : Nat} : ∀ {p : Pat}, p.ok m → p.bel m
  | .word _, _ => trivial
  | .unk _, q => q
  | .un _ p, q => Pat.bel_of (p := p) q.2
  | .bin _ p r, q => ⟨Pat.bel_of (p := p) q.2.1, Pat.bel_of (p := r) q.2.2⟩
theorem res_int {o : Op} (ho : o.quiet = true ∨ o.single = true) {a b : Int} (ha : Wd a) (hb : Wd b) : ∃ v, res o a b = .int v ∧ Wd v := by
  revert ho
  cases o <;> intro ho <;> first
    | exact ⟨_, rfl, wrp_wd _⟩
    | exact ⟨_, rfl, band_wd ha hb⟩
    | exact ⟨_, rfl, bor_wd ha hb⟩
    | exact ⟨_, rfl, bxor_wd ha hb⟩
    | exact ⟨_, rfl, shr_wd ha _⟩
    | exact ⟨_, rfl, b2_wd _⟩
    | (exfalso; revert ho; decide)
theorem res_asI {o : Op} (ho : o.quiet = true ∨ o.single = true) {a b : Int} (ha : Wd a) (hb : Wd b) : res o a b = .int (asI (res o a b)) ∧ Wd (asI (res o a b)) := by
  obtain ⟨v, e, w⟩ := res_int ho ha hb
  rw [e]
  exact ⟨rfl, w⟩
theorem Pat.val_wd {ns : List Int} (hn : ∀ x ∈ ns, Wd x) {m : Nat} : ∀ {p : Pat}, p.ok m → Wd (p.val ns)
  | .word _, q => q
  | .unk n, q => by
    show Wd (ns.getD n 0)
    rw [List.getD_eq_getElem?_getD]
    cases e : ns[n]? with
    | none => exact ⟨by decide, by decide⟩
    | some x => exact hn x (List.mem_of_getElem? e)
  | .un o p, q => (res_asI (.inr q.1) (Pat.val_wd hn q.2) (Pat.val_wd hn q.2)).2
  | .bin o p r, q => (res_asI (.inl q.1) (Pat.val_wd hn q.2.1) (Pat.val_wd hn q.2.2)).2
/-! ### an operation and its parts -/
def Pat.kids : Pat → List Pat
  | .un _ p => [p]
  | .bin _ p q => [p, q]
  | _ => []
def Pat.op : Pat → Option Op
  | .un o _ => some o
  | .bin o _ _ => some o
  | _ => none
/-- a node: its tuple, its parts -/
theorem PatAt.node {H : Hp} {p : Pat} {v : V} {o : Op} (h : PatAt H v p) (ho : p.op = some o) : ∃ (a : Addr) (xs : List V), v = .ref a ∧ H a = some (.tup (.str o.name :: xs)) ∧ Paired (PatAt H) xs p.kids ∧ xs.length = p.kids.length := by
  cases p with
  | word i => cases ho
  | unk n => cases ho
  | un o' r =>
    cases ho
    obtain ⟨a, x, rfl, ha, hx⟩ := h
    exact ⟨a, [x], rfl, ha, .cons hx .nil, rfl⟩
  | bin o' r t =>
    cases ho
    obtain ⟨a, x, y, rfl, ha, hx, hy⟩ := h
    exact ⟨a, [x, y], rfl, ha, .cons hx (.cons hy .nil), rfl⟩
theorem Pat.kid_facts {p k : Pat} {m : Nat} (h : k ∈ p.kids) (ho : p.ok m) : k.ok m ∧ k.depth + 1 ≤ p.depth ∧ ∀ n, p.bel n → k.bel n := by
  cases p with
  | word i => cases h
  | unk n => cases h
  | un o r =>
    rw [List.mem_singleton.mp h]
    exact ⟨ho.2, Nat.le_refl _, fun _ z => z⟩
  | bin o r t =>
    rcases List.mem_cons.mp h with e | e
    · rw [e]
      exact ⟨ho.2.1, Nat.succ_le_succ (Nat.le_max_left _ _), fun _ z => z.1⟩
    · rw [List.mem_singleton.mp e]
      exact ⟨ho.2.2, Nat.succ_le_succ (Nat.le_max_right _ _), fun _ z => z.2⟩
theorem Pat.unks_kids {p : Pat} {o : Op} (h : p.op = some o) : p.unks = p.kids.flatMap Pat.unks := by
  cases p with
  | word i => cases h
  | unk n => cases h
  | un o r =>
    show r.unks = [r].flatMap Pat.unks
    simp
  | bin o r t =>
    show r.unks ++ t.unks = [r, t].flatMap Pat.unks
    simp
theorem Pat.op_ok {p : Pat} {o : Op} {m : Nat} (h : p.op = some o) (ho : p.ok m) : o.quiet = true ∨ o.single = true := by
  cases p with
  | word i => cases h
  | unk n => cases h
  | un o r =>
    cases h
    exact .inr ho.1
  | bin o r t =>
    cases h
    exact .inl ho.1
theorem Pat.kids_len {p : Pat} {o : Op} (h : p.op = some o) : 1 ≤ p.kids.length ∧ p.kids.length ≤ 2 := by
  cases p with
  | word i => cases h
  | unk n => cases h
  | un o r => exact ⟨by show 1 ≤ 1; decide, by show 1 ≤ 2; decide⟩
  | bin o r t => exact ⟨by show 1 ≤ 2; decide, by show 2 ≤ 2; decide⟩
/-- the slice t[1:] of a node's tuple -/
theorem cut1 (xs : List V) : cutV xs (some 1) none = xs.drop 1 := by
  unfold cutV
  rw [show HT.sIx xs.length 0 (some 1) = min 1 xs.length from HT.sIx_nat xs.length 0 1, HT.sIx_none]
  cases xs with
  | nil => rfl
  | cons x r =>
    rw [show min 1 (x :: r).length = 1 by
      rw [List.length_cons]
      omega]
    show (List.take ((x :: r).length - 1) r) = r
    rw [List.length_cons, Nat.add_sub_cancel]
    exact List.take_length
theorem at0 (x : V) (r : List V) : atI (x :: r) 0 = some x := atI_nat (j := 0) rfl
theorem cut1_not (x : V) (r : List V) : ¬ (HT.sIx (x :: r).length 0 (some 1) = 0 ∧ HT.sIx (x :: r).length (x :: r).length none = (x :: r).length) := by
  rw [show HT.sIx (x :: r).length 0 (some 1) = min 1 (x :: r).length from HT.sIx_nat _ 0 1, List.length_cons]
  omega
theorem paired_at {α β : Type} {F : α → β → Prop} : ∀ {l : List α} {m : List β} {i : Nat} {x : α}, Paired F l m → l[i]? = some x → ∃ y, m[i]? = some y ∧ F x y
  | _, _, _, _, .nil, e => by simp at e
  | _, _, 0, _, .cons r _, e => ⟨_, rfl, by cases e; exact r⟩
  | _, _, i + 1, x, .cons _ t, e => paired_at (i := i) t e
/-! ### promises -/
def spBelow (n : Nat) : Sp := fun vs H Q _ => ∃ (v : V) (d : Int) (p : Pat), vs = [v, .int d] ∧ PatAt H v p ∧ p.ok 1000 ∧ (p.depth : Int) ≤ d ∧ p.depth ≤ n ∧ ∀ H', Same H H' → Q (.bl true) H'
def spIsPat : Sp := fun vs H Q _ => ∃ (v : V) (p : Pat), vs = [v] ∧ PatAt H v p ∧ p.ok 1000 ∧ p.depth ≤ 12 ∧ ∀ H', Same H H' → Q (.bl true) H'
def spCheck : Sp := fun vs H Q _ => ∃ (v : V) (p : Pat), vs = [v] ∧ PatAt H v p ∧ p.ok 1000 ∧ p.depth ≤ 12 ∧ ∀ H', Same H H' → Q .non H'
def spUnks (n : Nat) : Sp := fun vs H Q _ => ∃ (v : V) (p : Pat), vs = [v] ∧ PatAt H v p ∧ p.ok 1000 ∧ p.depth ≤ n ∧ p.depth ≤ 12 ∧ ∀ H' r, Same H H' → H r = none → H' r = some (.lst (p.unks.map V.int)) → Q (.ref r) H'
def spWith (K : PySem.W.Frag) (n : Nat) : Sp := fun vs H Q _ => ∃ (v : V) (p : Pat) (w : Addr) (ns : List Int), vs = [v, .ref w] ∧ PatAt H v p ∧ p.ok 1000 ∧ p.depth ≤ n ∧ p.bel ns.length ∧ SqT K H w (ns.map V.int) ∧ (∀ x ∈ ns, Wd x) ∧ ∀ H', Same H H' → Q (.int (p.val ns)) H'
def spValB : Sp := fun vs H Q _ => ∃ (v : V) (w : Addr) (p : Pat) (ns : List Int), vs = [v, .ref w] ∧ PatAt H v p ∧ H w = some (.tup (ns.map V.int)) ∧ p.ok 1000 ∧ p.depth ≤ 12 ∧ p.bel ns.length ∧ (∀ x ∈ ns, Wd x) ∧ ∀ H', Same H H' → Q (.int (p.val ns)) H'
def spValueOf : Sp := fun vs H Q _ => ∃ (v : V) (p : Pat) (ns : List Int), vs = v :: ns.map V.int ∧ PatAt H v p ∧ p.ok 1000 ∧ p.depth ≤ 12 ∧ p.bel ns.length ∧ (∀ x ∈ ns, Wd x) ∧ ns.length ≤ 1000 ∧ ∀ H', Same H H' → Q (.int (p.val ns)) H'
/-! ### the law's drawn patterns -/
abbrev onm (o : Op) : V := .str o.name
def ways14 : List Op := [.add, .sub, .mul, .and, .or, .xor, .shl, .shr, .lt, .le, .gt, .ge, .eq, .ne]
theorem ways_quiet : ∀ o ∈ ways14, o.quiet = true := by decide
theorem pool_ne {H : Hp} {p q : Addr} {s : Str} {r : List V} (h : PoolAt H p) (e : H q = some (.lst (.str s :: r))) : q ≠ p := by
  obtain ⟨x, d, n, e2, _⟩ := h
  exact ne_of e e2 (by intro z; injection z with z; injection z with z; cases z)
def spWays14 : Sp := fun vs H Q _ => vs = [] ∧ ∀ H' r, Same H H' → H r = none → H' r = some (.lst (ways14.map onm)) → Q (.ref r) H'
def spLeaf : Sp := fun vs H Q _ => ∃ (c : Addr) (m : Int), vs = [.ref c, .int m] ∧ PoolAt H c ∧ 0 < m ∧ m ≤ 1000 ∧ ∀ H' v p, SameBut c H H' → PoolAt H' c → PatAt H' v p → p.ok m.toNat → p.depth = 1 → Q v H'
def spSketch (n : Nat) : Sp := fun vs H Q _ => ∃ (c : Addr) (d m : Int) (wa : Addr), vs = [.ref c, .int d, .int m, .ref wa] ∧ PoolAt H c ∧ 0 < m ∧ m ≤ 1000 ∧ H wa = some (.lst (ways14.map onm)) ∧ (0 ≤ d ∧ d < (n : Int)) ∧ ∀ H' v p, SameBut c H H' → PoolAt H' c → PatAt H' v p → p.ok m.toNat → ((p.depth : Int) ≤ d ∨ p.depth = 1) → Q v H'
/-- an item of a list of names at a drawn place -/
theorem at_ops (os : List Op) {r : Int} (h0 : 0 ≤ r) (h1 : r < (os.length : Int)) : ∃ o ∈ os, atI (os.map onm) r = some (.str o.name) := by
  have hk : r.toNat < os.length := by omega
  have er : r = ((r.toNat : Nat) : Int) := by omega
  have q : atI (os.map onm) ((r.toNat : Nat) : Int) = some (onm os[r.toNat]) := atI_nat (by rw [List.getElem?_map, List.getElem?_eq_getElem hk] <;> rfl)
  rw [← er] at q
  exact ⟨_, List.getElem_mem hk, q⟩
def Pat.least : Pat → Int
  | .word _ => 0
  | .unk n => (n : Int) + 1
  | .un _ p => p.least
  | .bin _ p q => max p.least q.least
theorem Pat.least_bel : ∀ {p : Pat} {k : Nat}, p.least ≤ (k : Int) → p.bel k
  | .word _, _, _ => trivial
  | .unk n, k, h => by
    have h2 : (n : Int) + 1 ≤ k := h
    show n < k
    omega
  | .un _ p, k, h => Pat.least_bel (p := p) h
  | .bin _ p q, k, h => by
    have h2 : max p.least q.least ≤ (k : Int) := h
    exact ⟨Pat.least_bel (p := p) (by omega), Pat.least_bel (p := q) (by omega)⟩
theorem Pat.least_le {m : Nat} : ∀ {p : Pat}, p.ok m → 0 ≤ p.least ∧ p.least ≤ m
  | .word _, _ => ⟨Int.le_refl 0, by show (0 : Int) ≤ m; omega⟩
  | .unk n, h => by
    have h2 : n < m := h
    exact ⟨by show 0 ≤ (n : Int) + 1; omega, by show (n : Int) + 1 ≤ m; omega⟩
  | .un _ p, h => Pat.least_le (p := p) h.2
  | .bin _ p q, h => by
    have a := Pat.least_le (p := p) h.2.1
    have b := Pat.least_le (p := q) h.2.2
    exact ⟨by show 0 ≤ max p.least q.least; omega, by show max p.least q.least ≤ m; omega⟩
def spLeast (n : Nat) : Sp := fun vs H Q _ => ∃ (v : V) (p : Pat), vs = [v] ∧ PatAt H v p ∧ p.ok 1000 ∧ p.depth ≤ n ∧ ∀ H', Same H H' → Q (.int p.least) H'
def spWorth (n : Nat) : Sp := fun vs H Q _ => ∃ (v : V) (p : Pat) (l : Addr) (ns : List Int), vs = [v, .ref l] ∧ PatAt H v p ∧ p.ok 1000 ∧ p.depth ≤ n ∧ p.bel ns.length ∧ H l = some (.lst (ns.map V.int)) ∧ (∀ x ∈ ns, Wd x) ∧ ∀ H', Same H H' → Q (.int (p.val ns)) H'
def spValued (f : Addr) : Sp := fun vs H Q _ => ∃ (v : V) (p : Pat) (l : Addr) (ns : List Int), vs = [.ref f, v, .ref l] ∧ PatAt H v p ∧ p.ok 1000 ∧ p.depth ≤ 12 ∧ p.bel ns.length ∧ H l = some (.lst (ns.map V.int)) ∧ (∀ x ∈ ns, Wd x) ∧ ns.length ≤ 5 ∧ ∀ H', Same H H' → Q (.int (p.val ns)) H'
theorem res_zero {o : Op} (h : o.single = true) (a : Int) : res o a 0 = res o a a := by
  revert h
  cases o <;> intro h <;> first | rfl | exact absurd h (by decide)
theorem pe_gd {X : Cx} {x : Str} {f : Addr} {pos : Pos} (hg : Gl X x) (hm : X.mg x = some (.ref f)) (hd : (x == ("__debug__" : Str)) = false := by decide) : PE X (.Name x pos) (tC (.ref f)) := pe_glob (v := .ref f) hg hm rfl hd
theorem PoolAt.updne {H : Hp} {c D : Addr} {o : HO} (h : PoolAt H c) (n : c ≠ D) : PoolAt (upd H D o) c := by
  obtain ⟨s, d, k, e, r⟩ := h
  exact ⟨s, d, k, by rw [upd_ne n]; exact e, r⟩
theorem cutTo (xs : List V) (k : Nat) : cutV xs none (some (k : Int)) = xs.take k := by
  unfold cutV
  rw [HT.sIx_none, show HT.sIx xs.length xs.length (some (k : Int)) = min k xs.length from HT.sIx_nat _ _ k, List.drop_zero, Nat.sub_zero]
  exact List.take_eq_take_min.symm
theorem Pat.val_take {ns : List Int} {k : Nat} : ∀ {p : Pat}, p.bel k → p.val (ns.take k) = p.val ns
  | .word _, _ => rfl
  | .unk n, h => by
    have h2 : n < k := h
    show (ns.take k).getD n 0 = ns.getD n 0
    rw [List.getD_eq_getElem?_getD, List.getD_eq_getElem?_getD, List.getElem?_take, if_pos h2]
  | .un o p, h => by
    show asI (res o (p.val (ns.take k)) (p.val (ns.take k))) = asI (res o (p.val ns) (p.val ns))
    rw [Pat.val_take (p := p) h]
  | .bin o p q, h => by
    show asI (res o (p.val (ns.take k)) (q.val (ns.take k))) = asI (res o (p.val ns) (q.val ns))
    rw [Pat.val_take (p := p) h.1, Pat.val_take (p := q) h.2]
theorem Pat.bel_mono {m k : Nat} (h : m ≤ k) : ∀ {p : Pat}, p.bel m → p.bel k
  | .word _, _ => trivial
  | .unk _, q => Nat.lt_of_lt_of_le q h
  | .un _ p, q => Pat.bel_mono (p := p) h q
  | .bin _ p r, q => ⟨Pat.bel_mono (p := p) h q.1, Pat.bel_mono (p := r) h q.2⟩
theorem small_wd {i : Int} (h : Wd i) : smallV (.int i) = true := decide_eq_true (by unfold Wd at h; omega)
theorem gives_none {P : Program} {w : World} {K : PySem.W.Frag} {mg : Str → Option Value} {base : Heap} {CX : CXT} {k : Nat} {x : Str} {st : Stmt} {sp : Sp} (T : Stands K mg x st) (no : ∀ vs H Q E, ¬ sp vs H Q E) : Gives P w K mg base CX k x sp := by
  obtain ⟨f, fd, hm, F⟩ := T
  exact ⟨f, hm, F.kp, fun A outer s H us vs Q E _ _ _ h => absurd h (no vs H Q E)⟩
theorem unks_len : ∀ {p : Pat}, p.unks.length ≤ 2 ^ p.depth
  | .word _ => Nat.zero_le _
  | .unk _ => by
    show 1 ≤ 2 ^ 1
    decide
  | .un _ p => by
    have h := unks_len (p := p)
    show p.unks.length ≤ 2 ^ (p.depth + 1)
    rw [Nat.pow_succ]
    omega
  | .bin _ p q => by
    have h := unks_len (p := p)
    have h2 := unks_len (p := q)
    show (p.unks ++ q.unks).length ≤ 2 ^ (max p.depth q.depth + 1)
    rw [List.length_append, Nat.pow_succ]
    have a : 2 ^ p.depth ≤ 2 ^ max p.depth q.depth := Nat.pow_le_pow_right (by decide) (Nat.le_max_left _ _)
    have b : 2 ^ q.depth ≤ 2 ^ max p.depth q.depth := Nat.pow_le_pow_right (by decide) (Nat.le_max_right _ _)
    omega
theorem unks_small {p : Pat} (h : p.depth ≤ 12) : p.unks.length ≤ 4096 := Nat.le_trans unks_len (Nat.pow_le_pow_right (n := 2) (by decide) h)
theorem unks_nn : ∀ {p : Pat} {x : Int}, x ∈ p.unks → 0 ≤ x
  | .unk n, x, h => by
    rw [List.mem_singleton.mp h]
    omega
  | .un _ p, x, h => unks_nn (p := p) h
  | .bin _ p q, x, h => by
    rcases List.mem_append.mp h with e | e
    · exact unks_nn (p := p) e
    · exact unks_nn (p := q) e
theorem unks_below : ∀ {p : Pat} {k : Nat}, p.bel k → ∀ x ∈ p.unks, x < (k : Int)
  | .word _, _, _, x, h => by cases h
  | .unk n, k, hb, x, h => by
    rw [List.mem_singleton.mp h]
    have : n < k := hb
    omega
  | .un _ p, k, hb, x, h => unks_below (p := p) hb x h
  | .bin _ p q, k, hb, x, h => by
    rcases List.mem_append.mp h with e | e
    · exact unks_below (p := p) hb.1 x e
    · exact unks_below (p := q) hb.2 x e
theorem nm_word (o : Op) : decide (V.str o.name = V.str "word") = false := by cases o <;> decide
theorem nm_unk (o : Op) : decide (V.str o.name = V.str "unknown") = false := by cases o <;> decide
theorem nm_single {o : Op} (h : o.single = true) : inV (.str o.name) [.str "neg", .str "not"] = true := by
  revert h
  cases o <;> decide
theorem nm_double {o : Op} (h : o.quiet = true) : (!inV (.str o.name) [.str "add", .str "sub", .str "mul", .str "div", .str "rem", .str "and", .str "or", .str "xor", .str "shl", .str "shr", .str "lt", .str "le", .str "gt", .str "ge", .str "eq", .str "ne"]) = false := by
  revert h
  cases o <;> decide
theorem nm_divrem {o : Op} (h : o.quiet = true) : inV (.str o.name) [.str "div", .str "rem"] = false := by
  revert h
  cases o <;> decide
theorem op_name_in (o : Op) : inV (.str o.name) [.str "word", .str "unknown"] = false := by cases o <;> rfl
end Cb

end

section
set_option maxRecDepth 100000
set_option maxHeartbeats 4000000
namespace Cb
open PySem PySem.Spec PyProof.Rows L2
/-- no pool: not three numbers -/
def npool : List V → Bool
  | [.int _, .int _, .int _] => false
  | _ => true
/-- at most n items -/
def few {α : Type} : Nat → List α → Bool
  | _, [] => true
  | 0, _ => false
  | n + 1, _ :: r => few n r
theorem few_le {α : Type} : ∀ {n : Nat} {xs : List α}, few n xs = true → xs.length ≤ n
  | _, [], _ => Nat.zero_le _
  | 0, _ :: _, h => nomatch h
  | n + 1, _ :: r, h => Nat.succ_le_succ (few_le (xs := r) h)
theorem few_of {α : Type} : ∀ {n : Nat} {xs : List α}, xs.length ≤ n → few n xs = true
  | _, [], _ => by unfold few; rfl
  | 0, _ :: _, h => absurd h (by simp)
  | n + 1, _ :: r, h => few_of (xs := r) (Nat.le_of_succ_le_succ h)
mutual
/-- the datum d stands at v -/
inductive DA (H : Hp) : V → PyData → Prop
  | non : DA H .non .none
  | bl (b : Bool) : DA H (.bl b) (.bool b)
  | int (i : Int) : DA H (.int i) (.int i)
  | str (x : Str) : DA H (.str x) (.str x)
  | lst {a : Addr} {xs : List V} {ds : List PyData} : H a = some (.lst xs) → npool xs = true → few 3 xs = true → DAll H xs ds → DA H (.ref a) (.list ds)
  | tup {a : Addr} {xs : List V} {ds : List PyData} : H a = some (.tup xs) → DAll H xs ds → DA H (.ref a) (.tuple ds)
  | dct {a : Addr} : H a = some (.dK []) → DA H (.ref a) (.dict [])
  | dc1 {a : Addr} {k : Str} {i : Int} : H a = some (.dK [(.inr k, .int i)]) → DA H (.ref a) (.dict [(.str k, .int i)])
inductive DAll (H : Hp) : List V → List PyData → Prop
  | nil : DAll H [] []
  | cons {v : V} {vs : List V} {d : PyData} {ds : List PyData} : DA H v d → DAll H vs ds → DAll H (v :: vs) (d :: ds)
end
mutual
theorem DA.stay {H H' : Hp} (s : ∀ a o, H a = some o → (∀ xs, o = .lst xs → npool xs = true ∧ few 3 xs = true) → H' a = some o) : ∀ (d : PyData) (v : V), DA H v d → DA H' v d
  | .none, _, h => by cases h; exact .non
  | .bool b, _, h => by cases h; exact .bl b
  | .int i, _, h => by cases h; exact .int i
  | .str x, _, h => by cases h; exact .str x
  | .list ds, _, h => by
    cases h with
    | lst ha hn hs hd => exact .lst (s _ _ ha (fun xs e => by cases e; exact ⟨hn, hs⟩)) hn hs (DAll.stay s ds _ hd)
  | .tuple ds, _, h => by
    cases h with
    | tup ha hd => exact .tup (s _ _ ha (fun xs e => nomatch e)) (DAll.stay s ds _ hd)
  | .dict _, _, h => by
    cases h with
    | dct ha => exact .dct (s _ _ ha (fun xs e => nomatch e))
    | dc1 ha => exact .dc1 (s _ _ ha (fun xs e => nomatch e))
theorem DAll.stay {H H' : Hp} (s : ∀ a o, H a = some o → (∀ xs, o = .lst xs → npool xs = true ∧ few 3 xs = true) → H' a = some o) : ∀ (ds : List PyData) (vs : List V), DAll H vs ds → DAll H' vs ds
  | [], _, h => by cases h; exact .nil
  | d :: ds, _, h => by
    cases h with
    | cons h1 h2 => exact .cons (DA.stay s d _ h1) (DAll.stay s ds _ h2)
end
theorem DA.same {H H' : Hp} {v : V} {d : PyData} (h : DA H v d) (s : Same H H') : DA H' v d := DA.stay (fun a o e _ => s a o e) d v h
theorem DAll.same {H H' : Hp} {v : List V} {d : List PyData} (h : DAll H v d) (s : Same H H') : DAll H' v d := DAll.stay (fun a o e _ => s a o e) d v h
theorem pool_stay {H H' : Hp} {c : Addr} (hc : PoolAt H c) (s : SameBut c H H') : ∀ a o, H a = some o → (∀ xs, o = .lst xs → npool xs = true ∧ few 3 xs = true) → H' a = some o := by
  intro a o e n
  obtain ⟨x, d, k, e2, _⟩ := hc
  refine s.at e fun z => ?_
  subst z
  rw [e2] at e
  cases e
  exact absurd (n _ rfl).1 (by intro z; cases z)
theorem DA.but {H H' : Hp} {c : Addr} {v : V} {d : PyData} (h : DA H v d) (hc : PoolAt H c) (s : SameBut c H H') : DA H' v d := DA.stay (pool_stay hc s) d v h
theorem long_stay {H : Hp} {l : Addr} {ys : List V} {o' : HO} (hl : H l = some (.lst ys)) (hn : 3 < ys.length) : ∀ a o, H a = some o → (∀ xs, o = .lst xs → npool xs = true ∧ few 3 xs = true) → upd H l o' a = some o := by
  intro a o e n
  have h : a ≠ l := fun z => by
    subst z
    rw [hl] at e
    cases e
    have := few_le (n _ rfl).2
    omega
  rw [upd_ne h]
  exact e
theorem DA.long {H : Hp} {l : Addr} {ys : List V} {o' : HO} {v : V} {d : PyData} (hl : H l = some (.lst ys)) (hn : 3 < ys.length) (h : DA H v d) : DA (upd H l o') v d := DA.stay (long_stay hl hn) d v h
theorem DAll.length {H : Hp} : ∀ {vs : List V} {ds : List PyData}, DAll H vs ds → vs.length = ds.length
  | _, _, .nil => rfl
  | _, _, .cons _ t => congrArg (· + 1) t.length
/-! ### reading -/
mutual
def noList : PyData → Bool
  | .list _ => false
  | .tuple xs => noListAll xs
  | _ => true
def noListAll : List PyData → Bool
  | [] => true
  | x :: xs => noList x && noListAll xs
end
section
variable {X : Cx} {pins : List (Addr × Obj)} {σ : L2.St} {H : Hp} {s : Shared}
mutual
theorem DA.reads (I : L2.Inv X pins σ H s) : ∀ (d : PyData) (v : V) (u : Value), DA H v d → RelV v u → ∃ as, Reads s.heap u d as ∧ (noList d = true → sysModules ∉ as)
  | .none, _, _, h, r => by
    cases h
    cases r
    exact ⟨_, Reads.none, fun _ z => nomatch z⟩
  | .bool b, _, _, h, r => by
    cases h
    cases r
    exact ⟨_, Reads.bool b, fun _ z => nomatch z⟩
  | .int i, _, _, h, r => by
    cases h
    obtain ⟨t, rfl⟩ := r
    exact ⟨_, Reads.int i t, fun _ z => nomatch z⟩
  | .str x, _, _, h, r => by
    cases h
    obtain ⟨t, rfl⟩ := r
    exact ⟨_, Reads.str x t, fun _ z => nomatch z⟩
  | .list ds, _, _, h, r => by
    cases h with
    | lst hs hn _ ha =>
      cases r
      obtain ⟨its, rv, ⟨o, n, ho, hc, _, hd⟩, _⟩ := I.list (.inl (.inl hs))
      obtain ⟨as, hr, _⟩ := DAll.reads I ds _ its ha rv
      exact ⟨_, Reads.list ho hc hd hr, fun z => nomatch z⟩
  | .tuple ds, _, _, h, r => by
    cases h with
    | tup hs ha =>
      cases r
      obtain ⟨its, rv, ⟨o, ho, hc, n, hd⟩, _⟩ := I.tuple (.inl (.inl hs))
      obtain ⟨as, hr, hn⟩ := DAll.reads I ds _ its ha rv
      exact ⟨_, Reads.tuple ho hc hd hr, hn⟩
  | .dict _, _, _, h, r => by
    cases h with
    | @dct a ha =>
      cases r
      obtain ⟨_, hsm, vs, hkv, o, es, ep, h1, h2, h3, _, h4, _⟩ := (show ObjOk X.prog X.w H s.heap a (.dK []) from I.hok a _ ha)
      cases hkv
      have e : es.toList = [] := by
        generalize es.toList = l at h4
        cases h4
        rfl
      refine ⟨_, Reads.dict (as := []) (bs := []) h1 h2.1 h3 (by rw [e]; exact .nil) (by rw [e]; exact .nil), fun _ z => ?_⟩
      have z' : sysModules = a := by simpa using z
      rw [z'] at hsm
      simp at hsm
    | @dc1 a k i ha =>
      cases r
      obtain ⟨_, hsm, vs, hkv, o, es, ep, h1, h2, h3, _, h4, _⟩ := (show ObjOk X.prog X.w H s.heap a (.dK [(.inr k, .int i)]) from I.hok a _ ha)
      obtain ⟨kk, ku, e1, e2⟩ : ∃ kk ku, es.toList.map (·.key) = [Value.str k kk] ∧ es.toList.map (·.val) = [Value.int i ku] := by
        generalize es.toList = l at h4
        cases hkv with
        | cons hk hr =>
          cases hr
          cases h4 with
          | cons p1 p2 p3 =>
            cases p3
            obtain ⟨hk1, t, hk2⟩ := hk
            dsimp only at hk1 hk2 p1 p2
            rw [← hk1] at p1
            rcases keyIs_shape (k := Sum.inr k) p1 with ⟨_, _, z, _⟩ | ⟨x, t2, z, z2⟩
            · cases z
            · cases z
              exact ⟨t2, t, by rw [List.map_cons, z2]; rfl, by rw [List.map_cons, p2, hk2]; rfl⟩
      refine ⟨_, Reads.dict (kvs := [(.str k, .int i)]) (as := []) (bs := []) h1 h2.1 h3 (by rw [e1]; exact .cons (.str _ _) .nil) (by rw [e2]; exact .cons (.int _ _) .nil), fun _ z => ?_⟩
      have z' : sysModules = a := by simpa using z
      rw [z'] at hsm
      simp at hsm
theorem DAll.reads (I : L2.Inv X pins σ H s) : ∀ (ds : List PyData) (vs : List V) (us : List Value), DAll H vs ds → Vals vs us → ∃ as, ReadsAll s.heap us ds as ∧ (noListAll ds = true → sysModules ∉ as)
  | [], _, _, h, r => by
    cases h
    cases r
    exact ⟨_, ReadsAll.nil, fun _ z => nomatch z⟩
  | d :: ds, _, _, h, r => by
    cases h with
    | cons h1 h2 =>
      cases r with
      | cons r1 r2 =>
        obtain ⟨as, q1, n1⟩ := DA.reads I d _ _ h1 r1
        obtain ⟨bs, q2, n2⟩ := DAll.reads I ds _ _ h2 r2
        refine ⟨_, ReadsAll.cons q1 q2, fun z y => ?_⟩
        have z' := Bool.and_eq_true_iff.mp (show (noList d && noListAll ds) = true from z)
        rcases List.mem_append.mp y with y | y
        · exact n1 z'.1 y
        · exact n2 z'.2 y
end
end
theorem ok_app (a b : Str) : PyData.strOk (a ++ b) = (PyData.strOk a && PyData.strOk b) := by
  show (a.cps ++ b.cps).all _ = _
  rw [Array.all_append]
  rfl
theorem ok_of (s : String) : PyData.strOk (Str.ofString s) = true := by
  rw [PySem.Str.ofString_eq_toList]
  show ((s.toList.map Char.toNat).toArray).all _ = true
  rw [List.all_toArray, List.all_eq_true]
  intro c hc
  obtain ⟨x, _, e⟩ := List.mem_map.mp hc
  rw [← e]
  have h : x.toNat < 55296 ∨ 57343 < x.toNat ∧ x.toNat < 1114112 := x.valid
  exact decide_eq_true (by omega)
theorem ok_join : ∀ ts : List Str, ts.all PyData.strOk = true → PyData.strOk (Str.join ", " ts) = true
  | [], _ => ok_of ""
  | [x], h => (Bool.and_eq_true_iff.mp h).1
  | x :: y :: r, h => by
    have h1 := Bool.and_eq_true_iff.mp h
    show PyData.strOk (x ++ (", " : Str) ++ Str.join ", " (y :: r)) = true
    rw [ok_app, ok_app, h1.1, ok_of, ok_join (y :: r) h1.2]
    rfl
theorem ok_from : ∀ (ts : List Str) (k : Nat) (acc : Str), ts.all PyData.strOk = true → PyData.strOk acc = true → PyData.strOk (textFrom k acc ts) = true
  | [], k, acc, _, h => h
  | t :: r, k, acc, h, ha => by
    have h1 := Bool.and_eq_true_iff.mp h
    refine ok_from r (k + 1) _ h1.2 ?_
    rw [ok_app, ok_app, ha, h1.1, ok_of]
    rfl
mutual
/-- the texts in a datum have repr texts of good signs -/
def okd : PyData → Bool
  | .str x => PyData.strOk (reprText x)
  | .list xs => okdAll xs
  | .tuple xs => okdAll xs
  | .dict kvs => PyData.strOk (PyData.dict kvs).shown
  | _ => true
def okdAll : List PyData → Bool
  | [] => true
  | x :: xs => okd x && okdAll xs
end
mutual
theorem okd_shown : ∀ d : PyData, okd d = true → PyData.strOk d.shown = true
  | .none, _ => ok_of "None"
  | .bool true, _ => ok_of "True"
  | .bool false, _ => ok_of "False"
  | .int i, _ => ok_of _
  | .str x, h => h
  | .list xs, h => by
    show PyData.strOk (listText (PyData.shownAll xs)) = true
    unfold listText
    rw [ok_app, ok_from _ _ _ (okdAll_shown xs h) (ok_of "["), ok_of]
    rfl
  | .tuple xs, h => by
    show PyData.strOk (tupleText (PyData.shownAll xs)) = true
    unfold tupleText
    rw [ok_app, ok_app, ok_of, ok_join _ (okdAll_shown xs h), ok_of]
    rfl
  | .dict kvs, h => h
theorem okdAll_shown : ∀ ds : List PyData, okdAll ds = true → (PyData.shownAll ds).all PyData.strOk = true
  | [], _ => rfl
  | x :: xs, h => by
    have h1 := Bool.and_eq_true_iff.mp h
    show (PyData.strOk x.shown && (PyData.shownAll xs).all PyData.strOk) = true
    rw [okd_shown x h1.1, okdAll_shown xs h1.2]
    rfl
end
/-- a datum whose text has at most n signs, at most m levels; b: without lists, else without dicts -/
structure Fit (b : Bool) (n m : Nat) (d : PyData) : Prop where
  sh : d.showable = true
  len : d.shown.length ≤ n
  dep : d.depth ≤ m
  kd : (if b = true then noList d = true else d.hasDict = false)
  ok : okd d = true
structure FitAll (b : Bool) (n m : Nat) (ds : List PyData) : Prop where
  sh : PyData.showableAll ds = true
  len : piled (PyData.shownAll ds) ≤ n
  dep : PyData.depthAll ds ≤ m
  kd : (if b = true then noListAll ds = true else PyData.hasDictAll ds = false)
  ok : okdAll ds = true
theorem FitAll.nil {b : Bool} {n m : Nat} : FitAll b n m [] := ⟨rfl, Nat.zero_le _, Nat.zero_le _, by cases b <;> rfl, rfl⟩
theorem FitAll.cons {b : Bool} {n k j m : Nat} {d : PyData} {ds : List PyData} (h : Fit b n m d) (t : FitAll b k m ds) (e : n + 2 + k ≤ j) : FitAll b j m (d :: ds) := by
  refine ⟨?_, ?_, ?_, ?_, by show (okd d && okdAll ds) = true; rw [h.ok, t.ok]; rfl⟩
  · show (d.showable && PyData.showableAll ds) = true
    rw [h.sh, t.sh]
    rfl
  · show piled (d.shown :: PyData.shownAll ds) ≤ j
    rw [piled_cons]
    have := h.len
    have := t.len
    omega
  · show max d.depth (PyData.depthAll ds) ≤ m
    have := h.dep
    have := t.dep
    omega
  · cases b
    · show (d.hasDict || PyData.hasDictAll ds) = false
      rw [show d.hasDict = false from h.kd, show PyData.hasDictAll ds = false from t.kd]
      rfl
    · show (noList d && noListAll ds) = true
      rw [show noList d = true from h.kd, show noListAll ds = true from t.kd]
      rfl
theorem textFrom_piled : ∀ (ts : List Str) (k : Nat) (acc : Str), (textFrom k acc ts).length ≤ acc.length + piled ts
  | [], k, acc => Nat.le_add_right _ _
  | t :: r, k, acc => by
    have ih := textFrom_piled r (k + 1) (acc ++ (if k > 0 then ", " else "" : String) ++ t)
    show (textFrom (k + 1) (acc ++ (if k > 0 then ", " else "" : String) ++ t) r).length ≤ _
    have e1 : (acc ++ Str.ofString (if k > 0 then ", " else "" : String) ++ t).length ≤ acc.length + 2 + t.length := by
      rw [PySem.Str.length_append, PySem.Str.length_append]
      have : (Str.ofString (if k > 0 then ", " else "" : String)).length ≤ 2 := by
        split <;> decide
      omega
    rw [piled_cons]
    omega
theorem Fit.tup {b : Bool} {n k m : Nat} {ds : List PyData} (h : FitAll b n m ds) (e : n + 4 ≤ k) : Fit b k (m + 1) (.tuple ds) := by
  refine ⟨h.sh, ?_, Nat.succ_le_succ h.dep, ?_, h.ok⟩
  · show (tupleText (PyData.shownAll ds)).length ≤ k
    unfold tupleText
    rw [PySem.Str.length_append, PySem.Str.length_append]
    have e1 : (Str.ofString "(").length = 1 := by decide
    have e2 : (Str.ofString (if (PyData.shownAll ds).length == 1 then ",)" else ")" : String)).length ≤ 2 := by
      split <;> decide
    have e3 : (Str.join ", " (PyData.shownAll ds)).length ≤ piled (PyData.shownAll ds) := by
      by_cases c : PyData.shownAll ds = []
      · rw [c]
        decide
      · have := join_length_add _ c
        omega
    have := h.len
    omega
  · cases b
    · exact h.kd
    · exact h.kd
theorem Fit.lst {n k m : Nat} {ds : List PyData} (h : FitAll false n m ds) (e : n + 4 ≤ k) : Fit false k (m + 1) (.list ds) := by
  refine ⟨h.sh, ?_, Nat.succ_le_succ h.dep, h.kd, h.ok⟩
  show (listText (PyData.shownAll ds)).length ≤ k
  unfold listText
  rw [PySem.Str.length_append]
  have e1 : (Str.ofString "[").length = 1 := by decide
  have e2 : (Str.ofString "]").length = 1 := by decide
  have e3 := textFrom_piled (PyData.shownAll ds) 0 "["
  have := h.len
  omega
theorem Fit.dct {k m : Nat} (e : 2 ≤ k) (e2 : 1 ≤ m) : Fit true k m (.dict []) := ⟨rfl, e, e2, rfl, by decide +kernel⟩
theorem Fit.non {b : Bool} {n m : Nat} (e : 4 ≤ n) : Fit b n m .none := ⟨rfl, e, Nat.zero_le _, by cases b <;> rfl, rfl⟩
theorem Fit.bl {b : Bool} {n m : Nat} {x : Bool} (e : 5 ≤ n) : Fit b n m (.bool x) := ⟨rfl, by cases x; exact e; exact Nat.le_of_succ_le e, Nat.zero_le _, by cases b <;> rfl, rfl⟩
theorem Fit.int {b : Bool} {n m : Nat} {i : Int} (hi : i.natAbs < 2 ^ 40) (e : 42 ≤ n) : Fit b n m (.int i) := by
  have h2 : i.natAbs.log2 < 40 := by
    by_cases c : i.natAbs = 0
    · rw [c]
      decide
    · exact (Nat.log2_lt c).mpr hi
  refine ⟨decide_eq_true (by omega), ?_, Nat.zero_le _, by cases b <;> rfl, rfl⟩
  have h3 := int_text_length_le (a := i) (k := 40) (by decide) h2
  show (Str.ofString (toString i)).length ≤ n
  rw [PySem.ofString_length]
  omega
theorem Fit.intW {b : Bool} {n m : Nat} {i : Int} (hi : i.natAbs < 2 ^ 200) (e : 202 ≤ n) : Fit b n m (.int i) := by
  have h2 : i.natAbs.log2 < 200 := by
    by_cases c : i.natAbs = 0
    · rw [c]
      decide
    · exact (Nat.log2_lt c).mpr hi
  refine ⟨decide_eq_true (by omega), ?_, Nat.zero_le _, by cases b <;> rfl, rfl⟩
  have h3 := int_text_length_le (a := i) (k := 200) (by decide) h2
  show (Str.ofString (toString i)).length ≤ n
  rw [PySem.ofString_length]
  omega
theorem Fit.str {b : Bool} {n m : Nat} {x : Str} (e : (PyData.str x).shown.length ≤ n ∧ okd (.str x) = true) : Fit b n m (.str x) := ⟨rfl, e.1, Nat.zero_le _, by cases b <;> rfl, e.2⟩
theorem Fit.mono {b : Bool} {n m k j : Nat} {d : PyData} (h : Fit b n m d) (e : n ≤ k) (e2 : m ≤ j) : Fit b k j d := ⟨h.sh, Nat.le_trans h.len e, Nat.le_trans h.dep e2, h.kd, h.ok⟩
theorem Fit.dict {b : Bool} {n m : Nat} {d : PyData} (h : Fit b n m d) : d.hasDict = true → noList d = true := by
  intro z
  cases b
  · have := h.kd
    rw [show d.hasDict = false from h.kd] at z
    cases z
  · exact h.kd
/-! ### repr of a datum -/
def rReprD (m : Nat) : List V → Hp → VK → Prop := fun vs H Q => ∃ (x : V) (d : PyData) (b : Bool) (n : Nat), vs = [x] ∧ DA H x d ∧ Fit b n m d ∧ n ≤ sizeLine ∧ Q (.str d.shown) H
theorem call_reprD {X : Cx} {m : Nat} (hg : X.A.guards = some []) (hu : X.A.units + (m + 1) < cLine) : CallR X (.builtin "repr") (rReprD m) := by
  intro pins s σ H xs us Q I r h
  obtain ⟨x, d, b, n, rfl, hd, hf, hn, q⟩ := h
  obtain ⟨u, rfl, rx⟩ := vals1 r
  have hz := Nat.le_trans hf.len hn
  have hdp := hf.dep
  cases hd with
  | non =>
    cases rx
    exact PySem.P.repr_of_none ⟨.str _, H, I.tok _, ⟨_, rfl⟩, q⟩
  | bl b =>
    cases rx
    exact PySem.P.repr_of_bool ⟨.str _, H, I.tok _, ⟨_, rfl⟩, q⟩
  | int i =>
    obtain ⟨t, rfl⟩ := rx
    exact PySem.P.repr_of_int (of_decide_eq_true hf.sh) ⟨.str _, H, I.tok _, ⟨_, rfl⟩, q⟩
  | str z =>
    obtain ⟨t, rfl⟩ := rx
    exact PySem.P.repr_of_str ⟨.str _, H, I.tok _, ⟨_, rfl⟩, q⟩ hz
  | @lst a xs ds h1 h2 h4 h3 =>
    cases rx
    obtain ⟨as, rd, nl⟩ := DA.reads I _ _ _ (.lst h1 h2 h4 h3) rfl
    exact repr_of_reads' rd hf.sh (fun z => nl (hf.dict z)) hg (by omega) (fun _ _ e => e) (fun h' t tk hk => ⟨.str _, H, I.kept hk, ⟨_, rfl⟩, q⟩) hz
  | @tup a xs ds h1 h2 =>
    cases rx
    obtain ⟨as, rd, nl⟩ := DA.reads I _ _ _ (.tup h1 h2) rfl
    exact repr_of_reads' rd hf.sh (fun z => nl (hf.dict z)) hg (by omega) (fun _ _ e => e) (fun h' t tk hk => ⟨.str _, H, I.kept hk, ⟨_, rfl⟩, q⟩) hz
  | @dct a h1 =>
    cases rx
    obtain ⟨as, rd, nl⟩ := DA.reads I _ _ _ (.dct h1) rfl
    exact repr_of_reads' rd hf.sh (fun z => nl (hf.dict z)) hg (by omega) (fun _ _ e => e) (fun h' t tk hk => ⟨.str _, H, I.kept hk, ⟨_, rfl⟩, q⟩) hz
  | @dc1 a k i h1 =>
    cases rx
    obtain ⟨as, rd, nl⟩ := DA.reads I _ _ _ (.dc1 h1) rfl
    exact repr_of_reads' rd hf.sh (fun z => nl (hf.dict z)) hg (by omega) (fun _ _ e => e) (fun h' t tk hk => ⟨.str _, H, I.kept hk, ⟨_, rfl⟩, q⟩) hz
end Cb

end

section
set_option maxRecDepth 100000
set_option maxHeartbeats 4000000
namespace Cb
open PySem PySem.Spec PyProof.Rows L2
def tyN : PyData → String
  | .none => "NoneType" | .bool _ => "bool" | .int _ => "int" | .str _ => "str" | .list _ => "list" | .tuple _ => "tuple" | .dict _ => "dict"
theorem DA.ty {K : PySem.W.Frag} {H : Hp} {v : V} {d : PyData} (h : DA H v d) : TyX K H v (.type (tyN d)) := by
  cases h with
  | non => exact .base .non
  | bl b => exact .base (.bl b)
  | int i => exact .base (.int i)
  | str x => exact .base (.str x)
  | lst h _ _ _ => exact .base (.lst h)
  | tup h _ => exact .base (.tup h)
  | dct h => exact .base (.dK h)
  | dc1 h => exact .base (.dK h)
def isInt : PyData → Bool
  | .bool _ => true | .int _ => true | _ => false
def isBool : PyData → Bool
  | .bool _ => true | _ => false
def isStr : PyData → Bool
  | .str _ => true | _ => false
def isTup : PyData → Bool
  | .tuple _ => true | _ => false
def isList : PyData → Bool
  | .list _ => true | _ => false
def rIsiD (f : PyData → Bool) (T : String) : List V → Hp → VK → Prop := fun vs H Q => ∃ (v : V) (d : PyData), vs = [v, .ty T] ∧ DA H v d ∧ Q (.bl (f d)) H
theorem call_isiD {X : Cx} {f : PyData → Bool} {T : String} (hT : ∀ d, kitB (tyN d) T = some (f d)) : CallR X (.builtin "isinstance") (rIsiD f T) := by
  intro pins s σ H xs us Q I r h
  obtain ⟨v, d, rfl, hd, q⟩ := h
  exact call_isi pins s σ H _ us Q I r ⟨v, .ty T, _, _, _, rfl, .ty T, hd.ty, kit_ty (hT d), q⟩
theorem kb_int : ∀ d : PyData, kitB (tyN d) "int" = some (isInt d)
  | .none => (by decide +kernel : kitB "NoneType" "int" = some false)
  | .bool _ => (by decide +kernel : kitB "bool" "int" = some true)
  | .int _ => (by decide +kernel : kitB "int" "int" = some true)
  | .str _ => (by decide +kernel : kitB "str" "int" = some false)
  | .list _ => (by decide +kernel : kitB "list" "int" = some false)
  | .tuple _ => (by decide +kernel : kitB "tuple" "int" = some false)
  | .dict _ => (by decide +kernel : kitB "dict" "int" = some false)
theorem kb_bool : ∀ d : PyData, kitB (tyN d) "bool" = some (isBool d)
  | .none => (by decide +kernel : kitB "NoneType" "bool" = some false)
  | .bool _ => (by decide +kernel : kitB "bool" "bool" = some true)
  | .int _ => (by decide +kernel : kitB "int" "bool" = some false)
  | .str _ => (by decide +kernel : kitB "str" "bool" = some false)
  | .list _ => (by decide +kernel : kitB "list" "bool" = some false)
  | .tuple _ => (by decide +kernel : kitB "tuple" "bool" = some false)
  | .dict _ => (by decide +kernel : kitB "dict" "bool" = some false)
theorem kb_str : ∀ d : PyData, kitB (tyN d) "str" = some (isStr d)
  | .none => (by decide +kernel : kitB "NoneType" "str" = some false)
  | .bool _ => (by decide +kernel : kitB "bool" "str" = some false)
  | .int _ => (by decide +kernel : kitB "int" "str" = some false)
  | .str _ => (by decide +kernel : kitB "str" "str" = some true)
  | .list _ => (by decide +kernel : kitB "list" "str" = some false)
  | .tuple _ => (by decide +kernel : kitB "tuple" "str" = some false)
  | .dict _ => (by decide +kernel : kitB "dict" "str" = some false)
theorem kb_tuple : ∀ d : PyData, kitB (tyN d) "tuple" = some (isTup d)
  | .none => (by decide +kernel : kitB "NoneType" "tuple" = some false)
  | .bool _ => (by decide +kernel : kitB "bool" "tuple" = some false)
  | .int _ => (by decide +kernel : kitB "int" "tuple" = some false)
  | .str _ => (by decide +kernel : kitB "str" "tuple" = some false)
  | .list _ => (by decide +kernel : kitB "list" "tuple" = some false)
  | .tuple _ => (by decide +kernel : kitB "tuple" "tuple" = some true)
  | .dict _ => (by decide +kernel : kitB "dict" "tuple" = some false)
theorem kb_list : ∀ d : PyData, kitB (tyN d) "list" = some (isList d)
  | .none => (by decide +kernel : kitB "NoneType" "list" = some false)
  | .bool _ => (by decide +kernel : kitB "bool" "list" = some false)
  | .int _ => (by decide +kernel : kitB "int" "list" = some false)
  | .str _ => (by decide +kernel : kitB "str" "list" = some false)
  | .list _ => (by decide +kernel : kitB "list" "list" = some true)
  | .tuple _ => (by decide +kernel : kitB "tuple" "list" = some false)
  | .dict _ => (by decide +kernel : kitB "dict" "list" = some false)
theorem upd_new {H : Hp} {p a : Addr} {o u : HO} (n : H p = none) (h : H a = some o) : upd H p u a = some o := same_upd n _ _ h
theorem but_tup {H H' : Hp} {a c : Addr} {xs : List V} (s : SameBut c H H') (hc : PoolAt H c) (h : H a = some (.tup xs)) : H' a = some (.tup xs) := s.at h (tup_ne_pool hc h)
theorem but_lst {H H' : Hp} {a c : Addr} {xs : List V} (s : SameBut c H H') (hc : PoolAt H c) (h : H a = some (.lst xs)) (n : npool xs = true) : H' a = some (.lst xs) := by
  obtain ⟨x, d, k, e2, _⟩ := hc
  refine s.at h fun z => ?_
  subst z
  rw [e2] at h
  cases h
  cases n
theorem but_dK {H H' : Hp} {a c : Addr} {xs} (s : SameBut c H H') (hc : PoolAt H c) (h : H a = some (.dK xs)) : H' a = some (.dK xs) := pool_stay hc s _ _ h (fun ys e => nomatch e)
theorem DA.new {H : Hp} {p : Addr} {u : HO} {v : V} {d : PyData} (n : H p = none) (h : DA H v d) : DA (upd H p u) v d := h.same (same_upd n)
theorem DA.same' {H H' : Hp} {v : V} {d : PyData} (s : L2.Same H H') (h : DA H v d) : DA H' v d := h.same s
theorem DA.but' {H H' : Hp} {c : Addr} {v : V} {d : PyData} (s : SameBut c H H') (hc : PoolAt H c) (h : DA H v d) : DA H' v d := h.but hc s
theorem hp_same {H H' : Hp} {a : Addr} {o : HO} (s : L2.Same H H') (h : H a = some o) : H' a = some o := s _ _ h
theorem but_lst' {H H' : Hp} {a c : Addr} {xs : List V} (s : SameBut c H H') (hc : PoolAt H c) (n : npool xs = true) (h : H a = some (.lst xs)) : H' a = some (.lst xs) := but_lst s hc h n
theorem PoolAt.new {H : Hp} {p c : Addr} {u : HO} (n : H p = none) (h : PoolAt H c) : PoolAt (upd H p u) c := h.same (same_upd n)
theorem PoolAt.same' {H H' : Hp} {c : Addr} (s : L2.Same H H') (h : PoolAt H c) : PoolAt H' c := h.same s
theorem sm_new {H H1 : Hp} {p : Addr} {u : HO} (n : H1 p = none) (h : L2.Same H H1) : L2.Same H (upd H1 p u) := L2.Same.trans h (same_upd n)
theorem sm_same {H H1 H2 : Hp} (s : L2.Same H1 H2) (h : L2.Same H H1) : L2.Same H H2 := L2.Same.trans h s
theorem sb_new {H H1 : Hp} {p c : Addr} {u : HO} (n : H1 p = none) (h : SameBut c H H1) : SameBut c H (upd H1 p u) := h.new n
theorem sb_same {H H1 H2 : Hp} {c : Addr} (s : L2.Same H1 H2) (h : SameBut c H H1) : SameBut c H H2 := h.trans (.of s)
theorem sb_but {H H1 H2 : Hp} {c : Addr} (s : SameBut c H1 H2) (h : SameBut c H H1) : SameBut c H H2 := h.trans s
theorem ans {Q : VK} {H H' : Hp} {a b : Bool} (q : ∀ H', L2.Same H H' → Q (.bl b) H') (e : a = b) (s : L2.Same H H') : Q (.bl a) H' := e ▸ q _ s
theorem at1 (x y : V) (r : List V) : atI (x :: y :: r) 1 = some y := atI_nat (j := 1) rfl
theorem len_line {α : Type} (xs : List α) (h : few 1000 xs = true) : xs.length ≤ sizeLine := Nat.le_trans (few_le h) (by decide)
theorem len_line2 {α β : Type} (xs : List α) (ys : List β) (h : few 1000 xs = true) (h2 : few 1000 ys = true) : xs.length + ys.length ≤ sizeLine := Nat.le_trans (Nat.add_le_add (few_le h) (few_le h2)) (by decide)
end Cb

end

section
set_option maxRecDepth 100000
set_option maxHeartbeats 4000000
namespace Cb
open PySem PySem.Spec PyProof.Rows L2
section
variable {K : PySem.W.Frag} {a D : Addr} {xs : List V} {jx : Nat} {te : TE} {vs : List Nat} {σ : L2.St} {H1 : Hp} {Qd : Hp → Prop}
/-- what has been made so far -/
def MadeV (H1 : Hp) (D : Addr) (G : Nat → V → Prop) (i : Nat) (H : Hp) : Prop := L2.Same H1 H ∧ ∃ ys : List V, H D = some (.lst ys) ∧ ys.length = i ∧ ∀ j y, ys[j]? = some y → G j y
theorem MadeV.zero {G : Nat → V → Prop} (hD : H1 D = none) : MadeV H1 D G 0 (upd H1 D (.lst [])) := ⟨same_upd hD, [], upd_same, rfl, fun j y e => by simp at e⟩
theorem MadeV.more {G : Nat → V → Prop} {H H4 : Hp} {i : Nat} {y : V} (hD : H1 D = none) (hi : i < 1000) (m : MadeV H1 D G i H) (s : L2.Same H H4) (hy : G i y) : ∃ acc, H4 D = some (.lst acc) ∧ acc.length < sizeLine ∧ MadeV H1 D G (i + 1) (upd H4 D (.lst (acc ++ [y]))) := by
  obtain ⟨sm, ys, hd, hl, hg⟩ := m
  refine ⟨ys, s _ _ hd, by rw [hl]; exact Nat.lt_of_lt_of_le hi (by decide), fun b o e => ?_, ys ++ [y], upd_same, by rw [List.length_append, hl]; rfl, fun j z e => ?_⟩
  · rw [upd_ne (ne_of_none e hD)]
    exact s _ _ (sm _ _ e)
  · by_cases c : j < ys.length
    · rw [List.getElem?_append_left c] at e
      exact hg j z e
    · rw [List.getElem?_append_right (by omega)] at e
      have hj : j - ys.length = 0 := by
        rcases Nat.eq_zero_or_pos (j - ys.length) with z | z
        · exact z
        · rw [List.getElem?_eq_none (by simp only [List.length_singleton]; exact z)] at e
          cases e
      rw [hj] at e
      cases e
      have : j = i := by omega
      subst this
      exact hy
theorem lc_mapT (G : Nat → V → Prop) (hq : SqT K H1 a xs) (hD : H1 D = none) (hn : xs.length ≤ 1000) (hw : ∀ x, wipe ((wipe σ vs).set jx (some x)) vs = wipe σ vs)
    (turn : ∀ (i : Nat) (x : V) (H : Hp) (R : V → Hp → Prop), xs[i]? = some x → L2.Same H1 H → (∀ y H4, L2.Same H H4 → G i y → R y H4) →
      te ((wipe σ vs).set jx (some x)) H R)
    (done : ∀ H ys, L2.Same H1 H → H D = some (.lst ys) → ys.length = xs.length → (∀ j y, ys[j]? = some y → G j y) → Qd H) :
    ∃ W : Nat → Nat → Hp → Prop, (∃ m, W 0 m (upd H1 D (.lst []))) ∧ ∀ i m H, W i m H →
      ((Itt K a).stop i H ∧ Qd H) ∨ ((Itt K a).go i H ∧ ∃ Nx : Hp → Prop, (∀ H', Nx H' → ∃ m', m' < m ∧ W (i + 1) m' H') ∧ ∀ x H', (Itt K a).yld i H x H' → gName jx x (wipe σ vs) H' fun σ2 H2 => wipe σ2 vs = wipe σ vs ∧ tYes σ2 H2 fun b H3 =>
        if b = true then te σ2 H3 fun y H4 => ∃ acc, H4 D = some (.lst acc) ∧ acc.length < sizeLine ∧ Nx (upd H4 D (.lst (acc ++ [y]))) else Nx H3) := by
  refine lc_tup (xs := xs) (MadeV H1 D G) (.zero hD) (fun i H _ h => sqt_same h.1 hq) (fun i x H hx hI => ?_) (fun H hI => ?_)
  · have hi : i < xs.length := (List.getElem?_eq_some_iff.mp hx).1
    exact ⟨hw x, turn i x H (fun y H4 => ∃ acc, H4 D = some (.lst acc) ∧ acc.length < sizeLine ∧ MadeV H1 D G (i + 1) (upd H4 D (.lst (acc ++ [y])))) hx hI.1 (fun y H4 s hy => hI.more hD (by omega) s hy)⟩
  · obtain ⟨sm, ys, hd, hl, hg⟩ := hI
    exact done H ys sm hd hl hg
theorem lc_mapL (G : Nat → V → Prop) (hq : ∀ H, L2.Same H1 H → SqL K H a xs) (hD : H1 D = none) (hn : xs.length ≤ 1000) (hw : ∀ x, wipe ((wipe σ vs).set jx (some x)) vs = wipe σ vs)
    (turn : ∀ (i : Nat) (x : V) (H : Hp) (R : V → Hp → Prop), xs[i]? = some x → L2.Same H1 H → (∀ y H4, L2.Same H H4 → G i y → R y H4) →
      te ((wipe σ vs).set jx (some x)) H R)
    (done : ∀ H ys, L2.Same H1 H → H D = some (.lst ys) → ys.length = xs.length → (∀ j y, ys[j]? = some y → G j y) → Qd H) :
    ∃ W : Nat → Nat → Hp → Prop, (∃ m, W 0 m (upd H1 D (.lst []))) ∧ ∀ i m H, W i m H →
      ((Itl K a).stop i H ∧ Qd H) ∨ ((Itl K a).go i H ∧ ∃ Nx : Hp → Prop, (∀ H', Nx H' → ∃ m', m' < m ∧ W (i + 1) m' H') ∧ ∀ x H', (Itl K a).yld i H x H' → gName jx x (wipe σ vs) H' fun σ2 H2 => wipe σ2 vs = wipe σ vs ∧ tYes σ2 H2 fun b H3 =>
        if b = true then te σ2 H3 fun y H4 => ∃ acc, H4 D = some (.lst acc) ∧ acc.length < sizeLine ∧ Nx (upd H4 D (.lst (acc ++ [y]))) else Nx H3) := by
  refine lc_list (xs := xs) (MadeV H1 D G) (.zero hD) (fun i H _ h => hq H h.1) (fun i x H hx hI => ?_) (fun H hI => ?_)
  · have hi : i < xs.length := (List.getElem?_eq_some_iff.mp hx).1
    exact ⟨hw x, turn i x H (fun y H4 => ∃ acc, H4 D = some (.lst acc) ∧ acc.length < sizeLine ∧ MadeV H1 D G (i + 1) (upd H4 D (.lst (acc ++ [y])))) hx hI.1 (fun y H4 s hy => hI.more hD (by omega) s hy)⟩
  · obtain ⟨sm, ys, hd, hl, hg⟩ := hI
    exact done H ys sm hd hl hg
end
/-- the truths of a list of truths -/
theorem bools_of {ys : List V} {n : Nat} {f : Nat → Bool} (hl : ys.length = n) (h : ∀ j y, ys[j]? = some y → y = V.bl (f j)) : ys = ((List.range n).map f).map V.bl := by
  apply List.ext_getElem?
  intro j
  by_cases c : j < n
  · have e : ys[j]? = some ys[j] := List.getElem?_eq_getElem (by omega)
    rw [e, h j _ e]
    simp [c]
  · rw [List.getElem?_eq_none (by omega), List.getElem?_eq_none (by simp; omega)]
end Cb

end

section
set_option maxRecDepth 100000
set_option maxHeartbeats 4000000
namespace Cb
open PySem PySem.Spec PyProof.Rows L2
theorem Fit.tup' {b : Bool} {n m : Nat} {ds : List PyData} (h : FitAll b n m ds) : Fit b (n + 4) (m + 1) (.tuple ds) := Fit.tup h (Nat.le_refl _)
theorem Fit.lst' {n m : Nat} {ds : List PyData} (h : FitAll false n m ds) : Fit false (n + 4) (m + 1) (.list ds) := Fit.lst h (Nat.le_refl _)
theorem FitAll.cons' {b : Bool} {n k m : Nat} {d : PyData} {ds : List PyData} (h : Fit b n m d) (t : FitAll b k m ds) : FitAll b (n + 2 + k) m (d :: ds) := .cons h t (Nat.le_refl _)
theorem FitAll.nil' {b : Bool} {m : Nat} : FitAll b 0 m [] := .nil
theorem Fit.up {b : Bool} {n m j : Nat} {d : PyData} (h : Fit b n m d) (e2 : m ≤ j) : Fit b n j d := h.mono (Nat.le_refl _) e2
theorem Fit.int' {b : Bool} {m : Nat} {i : Int} (hi : i.natAbs < 2 ^ 40) : Fit b 42 m (.int i) := Fit.int hi (Nat.le_refl _)
theorem Fit.bl' {b x : Bool} {m : Nat} : Fit b 5 m (.bool x) := Fit.bl (Nat.le_refl _)
theorem Fit.non' {b : Bool} {m : Nat} : Fit b 4 m .none := Fit.non (Nat.le_refl _)
/-- a datum of at most n signs and m levels stands at v; b: without lists, else without dicts -/
def Dat (b : Bool) (n m : Nat) (H : Hp) (v : V) : Prop := ∃ d, DA H v d ∧ Fit b n m d
theorem Dat.same' {b : Bool} {n m : Nat} {H H' : Hp} {v : V} (s : L2.Same H H') (h : Dat b n m H v) : Dat b n m H' v := by
  obtain ⟨d, h1, h2⟩ := h
  exact ⟨d, h1.same s, h2⟩
theorem Dat.new {b : Bool} {n m : Nat} {H : Hp} {p : Addr} {u : HO} {v : V} (e : H p = none) (h : Dat b n m H v) : Dat b n m (upd H p u) v := Dat.same' (same_upd e) h
theorem Dat.but' {b : Bool} {n m : Nat} {H H' : Hp} {c : Addr} {v : V} (s : SameBut c H H') (hc : PoolAt H c) (h : Dat b n m H v) : Dat b n m H' v := by
  obtain ⟨d, h1, h2⟩ := h
  exact ⟨d, h1.but hc s, h2⟩
theorem Dat.mono {b : Bool} {n m k j : Nat} {H : Hp} {v : V} (h : Dat b n m H v) (e : n ≤ k) (e2 : m ≤ j) : Dat b k j H v := by
  obtain ⟨d, h1, h2⟩ := h
  exact ⟨d, h1, h2.mono e e2⟩
/-- many of them -/
def DatL (b : Bool) (n m : Nat) (H : Hp) (vs : List V) : Prop := ∃ ds, DAll H vs ds ∧ FitAll b n m ds
theorem DatL.nil {b : Bool} {m : Nat} {H : Hp} : DatL b 0 m H [] := ⟨[], .nil, .nil⟩
theorem DatL.cons {b : Bool} {n k m : Nat} {H : Hp} {v : V} {vs : List V} (h : Dat b n m H v) (t : DatL b k m H vs) : DatL b (n + 2 + k) m H (v :: vs) := by
  obtain ⟨d, h1, h2⟩ := h
  obtain ⟨ds, t1, t2⟩ := t
  exact ⟨d :: ds, .cons h1 t1, .cons' h2 t2⟩
theorem Dat.tup {b : Bool} {n m : Nat} {H : Hp} {a : Addr} {vs : List V} (e : H a = some (.tup vs)) (h : DatL b n m H vs) : Dat b (n + 4) (m + 1) H (.ref a) := by
  obtain ⟨ds, h1, h2⟩ := h
  exact ⟨.tuple ds, .tup e h1, .tup' h2⟩
theorem Dat.lst {n m : Nat} {H : Hp} {a : Addr} {vs : List V} (e : H a = some (.lst vs)) (np : npool vs = true) (hs : few 3 vs = true) (h : DatL false n m H vs) : Dat false (n + 4) (m + 1) H (.ref a) := by
  obtain ⟨ds, h1, h2⟩ := h
  exact ⟨.list ds, .lst e np hs h1, .lst' h2⟩
theorem Dat.dct {m : Nat} {H : Hp} {a : Addr} (e : H a = some (.dK [])) : Dat true 2 (m + 1) H (.ref a) := ⟨_, .dct e, .dct (Nat.le_refl _) (Nat.le_add_left _ _)⟩
theorem Dat.dc1 {m : Nat} {H : Hp} {a : Addr} (e : H a = some (.dK [(.inr "a", .int 1)])) : Dat true 8 (m + 1) H (.ref a) := ⟨_, .dc1 e, ⟨rfl, by decide +kernel, by show 1 ≤ m + 1; omega, rfl, by decide +kernel⟩⟩
theorem Dat.intW {b : Bool} {m : Nat} {H : Hp} {i : Int} (hi : i.natAbs < 2 ^ 200) : Dat b 202 m H (.int i) := ⟨_, .int i, .intW hi (Nat.le_refl _)⟩
theorem Dat.non {b : Bool} {m : Nat} {H : Hp} : Dat b 4 m H .non := ⟨_, .non, .non'⟩
theorem Dat.bl {b x : Bool} {m : Nat} {H : Hp} : Dat b 5 m H (.bl x) := ⟨_, .bl x, .bl'⟩
theorem Dat.int {b : Bool} {m : Nat} {H : Hp} {i : Int} (hi : i.natAbs < 2 ^ 40) : Dat b 42 m H (.int i) := ⟨_, .int i, .int' hi⟩
theorem Dat.str {b : Bool} {m : Nat} {H : Hp} {x : Str} (hx : (PyData.str x).shown.length ≤ 20 ∧ okd (.str x) = true) : Dat b 20 m H (.str x) := ⟨_, .str x, .str hx⟩
theorem Dat.up {b : Bool} {n m j : Nat} {H : Hp} {v : V} (e : m ≤ j) (h : Dat b n m H v) : Dat b n j H v := h.mono (Nat.le_refl _) e
theorem Dat.up' {b : Bool} {n m j : Nat} {H : Hp} {v : V} (h : Dat b n m H v) (e : m ≤ j) : Dat b n j H v := h.up e
/-! ### between two statements -/
theorem cut {G : Hp → Prop} {H0 : Hp} (P : Hp → Prop) (h0 : P H0) (h : ∀ H, P H → G H) : G H0 := h _ h0
theorem seq_hide {t u : TS} {D : Ends} {σ : L2.St} {H : Hp} (h : ∀ U : L2.St → Hp → Prop, (∀ σ H, u D σ H → U σ H) → t { D with nx := U } σ H) : tSeq t u D σ H := h (u D) (fun _ _ z => z)
theorem seq_then {t u : TS} {D : Ends} {σ : L2.St} {H : Hp} (R : L2.St → Hp → Prop) (h2 : ∀ σ' H', R σ' H' → u D σ' H') (h1 : ∀ U : L2.St → Hp → Prop, (∀ σ' H', R σ' H' → U σ' H') → t { D with nx := U } σ H) : tSeq t u D σ H := h1 (u D) h2
theorem next_mk {D : Ends} {σ : L2.St} {H : Hp} (h : D.nx σ H) : tNext D σ H := h
theorem nx_hide {t : TS} {D : Ends} {σ : L2.St} {H : Hp} (h : ∀ U : L2.St → Hp → Prop, (∀ σ H, D.nx σ H → U σ H) → t { D with nx := U } σ H) : t D σ H := h D.nx (fun _ _ z => z)
theorem unitsM {k : Nat} {A : Around} (r : Room k A) (h : 14 ≤ k) : A.units + (400 + 1) < cLine := by
  have := r.un
  omega
/-- a def called by keywords -/
theorem givesK_fun {P : Program} {w : World} {K : PySem.W.Frag} {mg : Str → Option Value} {base : Heap} {k : Nat} {x : Str} {st : Stmt} {N ps ks : List Str} {sp : Sp} (T : Stands K mg x st) (S : FnScope N ps (defScope st))
    (hb : ∀ (kV doc pm : Value) (an : Option Addr) (cdv ct : Value) (us ws : List Value), ws.length = ks.length → us.length + ws.length = ps.length → bindArgs (PySem.W.fnOf x x (defArgs st) (defBody st) (defScope st) .none kV doc pm an cdv ct) ⟨us, ks.zip ws⟩ = pure (ps.zip (us ++ ws)))
    (len : ∀ vs H Q E, sp vs H Q E → vs.length = ps.length)
    (hbody : ∀ (f : Addr) (cdv : Value) (A : Around) (outer : List Env) (s : Shared) (H : Hp) (vs : List V) (Q : VK) (E : XK), Room k (A.deeper (envOfC x (defScope st) s.heap.objs.size f cdv)) → sp vs H Q E →
      ∃ t, PSs (cxOf CX0 P w K mg base N x (defScope st) f cdv A outer s H E).nox (defBody st) t ∧ t { nx := fun _ H' => Q .non H', rt := Q } (start N vs) H) :
    GivesK P w K mg base CX0 (k + 1) x ks sp := by
  obtain ⟨f, fd, hm, F⟩ := T
  refine givesK_of hm F.kp (F.ok S len (hbody f)) ?_
  obtain ⟨oc, od, kV, doc, pm, an, cdv, ct, osl, rfl, lk, hcd⟩ := F.ex
  exact hb kV doc pm an cdv ct
/-! ### patterns as data -/
theorem name_short (o : Op) : (PyData.str o.name).shown.length ≤ 20 ∧ okd (.str o.name) = true := by cases o <;> decide +kernel
theorem wd_small {i : Int} (h : Wd i) : i.natAbs < 2 ^ 40 := by unfold Wd at h; omega
theorem PatAt.dat {b : Bool} {H : Hp} {m : Nat} (hm : m ≤ 1000) : ∀ {p : Pat} {v : V}, PatAt H v p → p.ok m → Dat b (100 * 2 ^ p.depth - 40) p.depth H v
  | .word i, v, ⟨a, e, h⟩, ho => by
    subst e
    exact (Dat.tup h (.cons (Dat.str (by decide +kernel)) (.cons (Dat.int (wd_small ho)) (DatL.nil (m := 0))))).mono (by show _ ≤ 100 * 2 ^ 1 - 40; decide) (Nat.le_refl _)
  | .unk n, v, ⟨a, e, h⟩, ho => by
    subst e
    have : n < m := ho
    exact (Dat.tup h (.cons (Dat.str (by decide +kernel)) (.cons (Dat.int (by omega)) (DatL.nil (m := 0))))).mono (by show _ ≤ 100 * 2 ^ 1 - 40; decide) (Nat.le_refl _)
  | .un o p, v, ⟨a, x, e, h, hp⟩, ho => by
    subst e
    refine (Dat.tup h (.cons (Dat.str (name_short o)) (.cons (PatAt.dat hm hp ho.2) DatL.nil))).mono ?_ (Nat.le_refl _)
    show _ ≤ 100 * 2 ^ (p.depth + 1) - 40
    have h2 : 1 ≤ 2 ^ p.depth := Nat.one_le_two_pow
    rw [Nat.pow_succ]
    omega
  | .bin o p q, v, ⟨a, x, y, e, h, hp, hq⟩, ho => by
    subst e
    have h1 : 100 * 2 ^ p.depth - 40 ≤ 100 * 2 ^ max p.depth q.depth - 40 := Nat.sub_le_sub_right (Nat.mul_le_mul_left _ (Nat.pow_le_pow_right (by decide) (Nat.le_max_left _ _))) _
    have h3 : 100 * 2 ^ q.depth - 40 ≤ 100 * 2 ^ max p.depth q.depth - 40 := Nat.sub_le_sub_right (Nat.mul_le_mul_left _ (Nat.pow_le_pow_right (by decide) (Nat.le_max_right _ _))) _
    have h2 : 1 ≤ 2 ^ max p.depth q.depth := Nat.one_le_two_pow
    refine (Dat.tup h (.cons (Dat.str (name_short o)) (.cons ((PatAt.dat hm hp ho.2.1).mono h1 (Nat.le_max_left _ _)) (.cons ((PatAt.dat hm hq ho.2.2).mono h3 (Nat.le_max_right _ _)) DatL.nil)))).mono ?_ (Nat.le_refl _)
    show _ ≤ 100 * 2 ^ (max p.depth q.depth + 1) - 40
    rw [Nat.pow_succ]
    omega
theorem PatAt.same' {H H' : Hp} {v : V} {p : Pat} (s : L2.Same H H') (h : PatAt H v p) : PatAt H' v p := h.same s
theorem PatAt.new {H : Hp} {q : Addr} {u : HO} {v : V} {p : Pat} (n : H q = none) (h : PatAt H v p) : PatAt (upd H q u) v p := h.same (same_upd n)
theorem PatAt.but' {H H' : Hp} {c : Addr} {v : V} {p : Pat} (s : SameBut c H H') (hc : PoolAt H c) (h : PatAt H v p) : PatAt H' v p := PatAt.but hc s h
theorem DatL.same' {b : Bool} {n m : Nat} {H H' : Hp} {v : List V} (s : L2.Same H H') (h : DatL b n m H v) : DatL b n m H' v := by
  obtain ⟨d, h1, h2⟩ := h
  exact ⟨d, h1.same s, h2⟩
theorem DatL.new {b : Bool} {n m : Nat} {H : Hp} {p : Addr} {u : HO} {v : List V} (e : H p = none) (h : DatL b n m H v) : DatL b n m (upd H p u) v := DatL.same' (same_upd e) h
theorem DatL.but' {b : Bool} {n m : Nat} {H H' : Hp} {c : Addr} {v : List V} (s : SameBut c H H') (hc : PoolAt H c) (h : DatL b n m H v) : DatL b n m H' v := by
  obtain ⟨d, h1, h2⟩ := h
  exact ⟨d, DAll.stay (pool_stay hc s) _ _ h1, h2⟩
theorem FitAll.mono {b : Bool} {n m k j : Nat} {d : List PyData} (h : FitAll b n m d) (e : n ≤ k) (e2 : m ≤ j) : FitAll b k j d := ⟨h.sh, Nat.le_trans h.len e, Nat.le_trans h.dep e2, h.kd, h.ok⟩
theorem DatL.mono {b : Bool} {n m k j : Nat} {H : Hp} {v : List V} (h : DatL b n m H v) (e : n ≤ k) (e2 : m ≤ j) : DatL b k j H v := by
  obtain ⟨d, h1, h2⟩ := h
  exact ⟨d, h1, h2.mono e e2⟩
theorem DatL.up' {b : Bool} {n m j : Nat} {H : Hp} {v : List V} (h : DatL b n m H v) (e : m ≤ j) : DatL b n j H v := h.mono (Nat.le_refl _) e
/-- every item of a list is a datum that fits -/
def AllD (n m : Nat) (H : Hp) (xs : List V) : Prop := ∀ x ∈ xs, ∃ b, Dat b n m H x
theorem AllD.nil {n m : Nat} {H : Hp} : AllD n m H [] := fun _ h => nomatch h
theorem AllD.cons {b : Bool} {n k m : Nat} {H : Hp} {x : V} {xs : List V} (h : Dat b k m H x) (e : k ≤ n) (t : AllD n m H xs) : AllD n m H (x :: xs) := fun y hy => by
  rcases List.mem_cons.mp hy with z | z
  · rw [z]
    exact ⟨b, h.mono e (Nat.le_refl _)⟩
  · exact t y z
theorem AllD.app {n m : Nat} {H : Hp} {xs ys : List V} (h : AllD n m H xs) (t : AllD n m H ys) : AllD n m H (xs ++ ys) := fun y hy => by
  rcases List.mem_append.mp hy with z | z
  · exact h y z
  · exact t y z
theorem AllD.same' {n m : Nat} {H H' : Hp} {v : List V} (s : L2.Same H H') (h : AllD n m H v) : AllD n m H' v := fun y hy => by
  obtain ⟨b, z⟩ := h y hy
  exact ⟨b, z.same' s⟩
theorem AllD.new {n m : Nat} {H : Hp} {p : Addr} {u : HO} {v : List V} (e : H p = none) (h : AllD n m H v) : AllD n m (upd H p u) v := AllD.same' (same_upd e) h
theorem AllD.but' {n m : Nat} {H H' : Hp} {c : Addr} {v : List V} (s : SameBut c H H') (hc : PoolAt H c) (h : AllD n m H v) : AllD n m H' v := fun y hy => by
  obtain ⟨b, z⟩ := h y hy
  exact ⟨b, z.but' s hc⟩
/-- an item at a drawn place -/
theorem at_drawn {xs : List V} {r : Int} (h0 : 0 ≤ r) (h1 : r < (xs.length : Int)) : ∃ x, x ∈ xs ∧ atI xs r = some x := by
  have hk : r.toNat < xs.length := by omega
  have er : r = ((r.toNat : Nat) : Int) := by omega
  have q : atI xs ((r.toNat : Nat) : Int) = some xs[r.toNat] := atI_nat (List.getElem?_eq_getElem hk)
  rw [← er] at q
  exact ⟨_, List.getElem_mem hk, q⟩
theorem PatAt.parts {H : Hp} {m : Nat} (hm : m ≤ 1000) {p : Pat} {v : V} (h : PatAt H v p) (ho : p.ok m) : ∃ a xs, v = .ref a ∧ H a = some (.tup xs) ∧ npool xs = true ∧ xs.length ≤ 3 ∧ ∀ b, DatL b (100 * 2 ^ p.depth) p.depth H xs := by
  cases p with
  | word i =>
    obtain ⟨a, e, h⟩ := h
    refine ⟨a, _, e, h, rfl, by show 2 ≤ 3; decide, fun b => (DatL.cons (Dat.str (by decide +kernel)) (.cons (Dat.int (wd_small ho)) (DatL.nil (m := 1)))).mono (by show _ ≤ 100 * 2 ^ 1; decide) (Nat.le_refl _)⟩
  | unk n =>
    obtain ⟨a, e, h⟩ := h
    have : n < m := ho
    refine ⟨a, _, e, h, rfl, by show 2 ≤ 3; decide, fun b => (DatL.cons (Dat.str (by decide +kernel)) (.cons (Dat.int (by omega)) (DatL.nil (m := 1)))).mono (by show _ ≤ 100 * 2 ^ 1; decide) (Nat.le_refl _)⟩
  | un o p =>
    obtain ⟨a, x, e, h, hp⟩ := h
    refine ⟨a, _, e, h, rfl, by show 2 ≤ 3; decide, fun b => (DatL.cons (Dat.str (name_short o)) (.cons (PatAt.dat hm hp ho.2) DatL.nil)).mono ?_ (Nat.le_succ _)⟩
    show _ ≤ 100 * 2 ^ (p.depth + 1)
    have h2 : 1 ≤ 2 ^ p.depth := Nat.one_le_two_pow
    rw [Nat.pow_succ]
    omega
  | bin o p q =>
    obtain ⟨a, x, y, e, h, hp, hq⟩ := h
    have h1 : 100 * 2 ^ p.depth ≤ 100 * 2 ^ max p.depth q.depth := Nat.mul_le_mul_left _ (Nat.pow_le_pow_right (by decide) (Nat.le_max_left _ _))
    have h3 : 100 * 2 ^ q.depth ≤ 100 * 2 ^ max p.depth q.depth := Nat.mul_le_mul_left _ (Nat.pow_le_pow_right (by decide) (Nat.le_max_right _ _))
    have h2 : 1 ≤ 2 ^ p.depth := Nat.one_le_two_pow
    have h4 : 1 ≤ 2 ^ q.depth := Nat.one_le_two_pow
    refine ⟨a, _, e, h, rfl, by show 3 ≤ 3; decide, fun b => (DatL.cons (Dat.str (name_short o)) (.cons ((PatAt.dat hm hp ho.2.1).up (Nat.le_max_left _ _)) (.cons ((PatAt.dat hm hq ho.2.2).up (Nat.le_max_right _ _)) DatL.nil))).mono ?_ (Nat.le_succ _)⟩
    show _ ≤ 100 * 2 ^ (max p.depth q.depth + 1)
    rw [Nat.pow_succ]
    omega
/-- xs[i] at a place that is not known: any item -/
def rIxAny (K : PySem.W.Frag) : R2 := fun x y H Q => ∃ p xs i, x = .ref p ∧ y = .int i ∧ SqL K H p xs ∧ 0 ≤ i ∧ i < (xs.length : Int) ∧ ∀ v, v ∈ xs → Q v H
theorem ix_any {X : Cx} : IxR X (rIxAny X.K) := by
  intro value slice pins s σ H x y v u Q I rx ry h hs
  obtain ⟨p, xs, i, e1, e2, hq, h0, h1, q⟩ := h
  obtain ⟨z, hz, ez⟩ := at_drawn h0 h1
  exact ix_list value slice pins s σ H x y v u Q I rx ry ⟨p, xs, i, z, e1, e2, hq, ez, q z hz⟩ hs
theorem npool_long {xs : List V} (h : 3 < xs.length) : npool xs = true := by
  match xs, h with
  | [], h => exact absurd h (by decide)
  | [_], h => exact absurd h (by simp)
  | [_, _], h => exact absurd h (by simp)
  | [_, _, _], h => exact absurd h (by simp)
  | _ :: _ :: _ :: _ :: _, _ =>
    unfold npool
    split
    · rename_i e
      cases e
    · rfl
theorem npool_app {xs ys : List V} (h : 3 < xs.length) : npool (xs ++ ys) = true := npool_long (by rw [List.length_append]; omega)
theorem Dat.leaf {b : Bool} {m k : Nat} {H : Hp} {v : V} {p : Pat} (h : PatAt H v p) (ho : p.ok k) (hd : p.depth = 1) (hk : k ≤ 1000) (e : 1 ≤ m) : Dat b 160 m H v := (PatAt.dat hk h ho).mono (by rw [hd]; decide) (by omega)
/-- of both kinds -/
def DatB (n m : Nat) (H : Hp) (xs : List V) : Prop := ∀ b, DatL b n m H xs
theorem DatB.same' {n m : Nat} {H H' : Hp} {v : List V} (s : L2.Same H H') (h : DatB n m H v) : DatB n m H' v := fun b => (h b).same' s
theorem DatB.new {n m : Nat} {H : Hp} {p : Addr} {u : HO} {v : List V} (e : H p = none) (h : DatB n m H v) : DatB n m (upd H p u) v := fun b => (h b).new e
theorem DatB.but' {n m : Nat} {H H' : Hp} {c : Addr} {v : List V} (s : SameBut c H H') (hc : PoolAt H c) (h : DatB n m H v) : DatB n m H' v := fun b => (h b).but' s hc
def DatE (n m : Nat) (H : Hp) (v : V) : Prop := ∀ b, Dat b n m H v
theorem Dat.ofE {b : Bool} {n m j : Nat} {H : Hp} {v : V} (h : DatE n m H v) (e : m ≤ j) : Dat b n j H v := (h b).up e
theorem Dat.long {b : Bool} {n m : Nat} {H : Hp} {l : Addr} {ys : List V} {o' : HO} {v : V} (hl : H l = some (.lst ys)) (hn : 3 < ys.length) (h : Dat b n m H v) : Dat b n m (upd H l o') v := by
  obtain ⟨d, h1, h2⟩ := h
  exact ⟨d, h1.long hl hn, h2⟩
theorem AllD.long {n m : Nat} {H : Hp} {l : Addr} {ys : List V} {o' : HO} {v : List V} (hl : H l = some (.lst ys)) (hn : 3 < ys.length) (h : AllD n m H v) : AllD n m (upd H l o') v := fun y hy => by
  obtain ⟨b, z⟩ := h y hy
  exact ⟨b, z.long hl hn⟩
/-- xs[i], an item that fits as all do -/
def rIxDat (K : PySem.W.Frag) : R2 := fun x y H Q => ∃ p xs i n m, x = .ref p ∧ y = .int i ∧ SqL K H p xs ∧ 0 ≤ i ∧ i < (xs.length : Int) ∧ AllD n m H xs ∧ ∀ v b, Dat b n m H v → Q v H
theorem ix_dat {X : Cx} : IxR X (rIxDat X.K) := by
  intro value slice pins s σ H x y v u Q I rx ry h hs
  obtain ⟨p, xs, i, n, m, e1, e2, hq, h0, h1, ha, q⟩ := h
  obtain ⟨z, hz, ez⟩ := at_drawn h0 h1
  obtain ⟨b, hb⟩ := ha z hz
  exact ix_list value slice pins s σ H x y v u Q I rx ry ⟨p, xs, i, z, e1, e2, hq, ez, q z b hb⟩ hs
/-- an item of a written list of numbers, by bounds -/
def rIxLow (K : PySem.W.Frag) (xs : List V) (n : Int) (lo hi : Int) : R2 := fun x y H Q => ∃ p i, x = .ref p ∧ y = .int i ∧ SqL K H p xs ∧ 0 ≤ i ∧ i < n ∧ ∀ v, lo ≤ v → v ≤ hi → Q (.int v) H
theorem ix_low {X : Cx} (xs : List V) (n : Int) (lo hi : Int) (ns : List Int) (hx : ns.map V.int = xs) (hn : (ns.length : Int) = n) (hb : ∀ v ∈ ns, lo ≤ v ∧ v ≤ hi) : IxR X (rIxLow X.K xs n lo hi) := by
  intro value slice pins s σ H x y v u Q I rx ry h hs
  obtain ⟨p, i, e1, e2, hq, h0, h1, q⟩ := h
  obtain ⟨z, hz, hP⟩ := at_ints ns hb h0 (by omega)
  rw [hx] at hz
  exact ix_list value slice pins s σ H x y v u Q I rx ry ⟨p, _, i, _, e1, e2, hq, hz, q z hP.1 hP.2⟩ hs
theorem AllD.mono {n m k j : Nat} {H : Hp} {xs : List V} (h : AllD n m H xs) (e : n ≤ k) (e2 : m ≤ j) : AllD k j H xs := fun y hy => by
  obtain ⟨b, z⟩ := h y hy
  exact ⟨b, z.mono e e2⟩
theorem sb_free {H H1 : Hp} {c p : Addr} (s : SameBut c H H1) (hc : PoolAt H1 c) (n : H1 p = none) : H p = none := by
  cases e : H p with
  | none => rfl
  | some o =>
    have h : p ≠ c := (hc.ne n).symm
    rw [s.at e h] at n
    cases n
theorem sb_upd {H H1 : Hp} {c l : Addr} {o : HO} (n : H l = none) (s : SameBut c H H1) : SameBut c H (upd H1 l o) := fun b x hb e => by
  rw [upd_ne (ne_of_none e n)]
  exact s.at e hb
theorem PoolAt.over {H : Hp} {c l : Addr} {ys : List V} {o : HO} (hl : H l = some (.lst ys)) (hn : npool ys = true) (h : PoolAt H c) : PoolAt (upd H l o) c := by
  refine h.updne fun z => ?_
  obtain ⟨x, d, k, e2, _⟩ := h
  subst z
  rw [e2] at hl
  cases hl
  cases hn
end Cb

end

section
set_option maxRecDepth 100000
set_option maxHeartbeats 4000000
namespace Cb
open PySem PySem.Spec PySem.W PySem.Calls PyProof.Rows PySem.HandSPX
/-- a built-in error class under which own classes stand -/
structure ErrB where
  B : String
  newId : String
  initId : String
  tl : List Value
def bVE : ErrB := ⟨"ValueError", "ValueError.__new__", "ValueError.__init__", [.type "ValueError", .type "Exception", .type "BaseException", .type "object"]⟩
def bLE : ErrB := ⟨"LookupError", "LookupError.__new__", "LookupError.__init__", [.type "LookupError", .type "Exception", .type "BaseException", .type "object"]⟩
def bAE : ErrB := ⟨"ArithmeticError", "ArithmeticError.__new__", "ArithmeticError.__init__", [.type "ArithmeticError", .type "Exception", .type "BaseException", .type "object"]⟩
structure BOk (b : ErrB) : Prop where
  F : ExcBaseFacts b.B b.newId b.initId b.tl
  S : StoreFacts b.B b.tl "object.__setattr__" "object"
theorem okVE : BOk bVE := ⟨F.excBase_ValueError, F.store_ValueError⟩
theorem okLE : BOk bLE := ⟨F.excBase_LookupError, F.store_LookupError⟩
theorem okAE : BOk bAE := ⟨F.excBase_ArithmeticError, F.store_ArithmeticError⟩
section
variable {prog : Program} {w : World} {A : Around} {E : Value → Shared → Prop} {R : Result → Shared → Prop} {h : Heap} {g : Array GenState} {d : Drawn} {t : Nat} {os : OsState}
variable {nm q : Str} {C N : Addr} {bs bm bmB : List Value} {hdct : Bool} {sn : List Str} {sub : List Value} {ab : Bool} {col : Option Bool} {dd : Option Addr} {k0 k1 k2 k3 k5 : Option Value} {B newId initId : String}
theorem check_newK (F : ExcBaseFacts B newId initId bmB) (hT : ∀ X : String, bm.contains (.type X) = bmB.contains (.type X)) {rest : List Value} {kw : List (Str × Value)} {Q : Unit → Shared → Prop} {M : Model}
    (hC : h.get? C = some (excClassObj nm q C N bs bm hdct sn sub ab col dd k0 k1 k2 k3 k5 newId)) (hq : Q () ⟨h, g, d, t, os⟩) : wpAny M A (checkBuiltinCall newId ⟨.ref C :: rest, kw⟩) Q E ⟨h, g, d, t, os⟩ := by
  have hcont : (Value.ref C :: bm).contains (.type B) = true := by rw [List.contains_cons, hT, F.hasB, Bool.or_true]
  have hstar := F.noStar
  simp only [checkBuiltinCall, F.newKind, F.newSplit, F.newRow]
  repeat (first | refine wpAny_loadPart_at hC ?_ | (refine wpAny_isSubtype_exc hC ?_; rw [hcont]) | refine wpAny_staticBase_exc hC ?_ | refine wpAny_madeBy_exc hC ?_ | simp only [bne_self_eq_false, Bool.false_eq_true, if_false] | wp_step)
  exact hq
theorem new_K (F : ExcBaseFacts B newId initId bmB) (hT : ∀ X : String, bm.contains (.type X) = bmB.contains (.type X)) {rest : List Value} {kw : List (Str × Value)}
    (hC : h.get? C = some (excClassObj nm q C N bs bm hdct sn sub ab col dd k0 k1 k2 k3 k5 newId)) (hrest : rest.length ≤ sizeLine)
    (hq : R (.ok (.ret (.ref (h.objs.size + 1)))) ⟨(h.push (W.kdv_tup rest)).push (excO C h.objs.size), g, d, t, os⟩) :
    codeAny (model prog w) A (.builtin newId ⟨.ref C :: rest, kw⟩) R ⟨h, g, d, t, os⟩ := by
  have hends := F.ends
  have hcB : (Value.ref C :: bm).contains (.type B) = true := by rw [List.contains_cons, hT, F.hasB, Bool.or_true]
  have hcA : (Value.ref C :: bm).contains (.type "AttributeError") = false := by rw [List.contains_cons, hT, F.noAttr]; rfl
  have hcN : (Value.ref C :: bm).contains (.type "NameError") = false := by rw [List.contains_cons, hT, F.noName]; rfl
  refine codeAny_builtinAt F.entry ?_
  unfold Builtin.«BaseException.__new__»
  refine PySem.wpAt_bind ?_
  show PySem.wpAt _ _ _ (stack >>= _) _ _ _
  refine PySem.wpAt_bind (PySem.wpAt_stack fun p below => PySem.wpAt_of_wpAny ?_)
  wp_walk
  refine PySem.wpAt_of_wpAny ?_
  rw [F.owner]
  repeat (first | with_reducible refine wpAny_madeHere_exc F.canon hC ?_ | with_reducible refine wpAny_loadPart_at hC ?_ | (with_reducible refine wpAny_isSubtype_exc hC ?_; first | rw [hcB] | rw [hcA] | rw [hcN]) | wp_step)
  show R _ _
  rw [Heap.size_push]
  exact hq
theorem type_callK (F : ExcBaseFacts B newId initId bmB) (hT : ∀ X : String, bm.contains (.type X) = bmB.contains (.type X)) {rest : List Value} {kw : List (Str × Value)} {fI : Addr} {Q : Fin → Shared → Prop}
    (hC : h.get? C = some (excClassObj nm q C N bs bm hdct sn sub ab col dd k0 k1 k2 k3 k5 newId))
    (hi : W.Looks (model prog w) h (typeLookup (.ref C) "__init__") (some (.ref fI))) (hb : ∀ self, W.Looks (model prog w) h (bindSpecial (.ref fI) self) (.ref fI, [self])) (hrest : rest.length ≤ sizeLine)
    (hq : codeAny (model prog w) A (.call (.ref fI) ⟨.ref (h.objs.size + 1) :: rest, kw⟩)
      (fun r s' => match r with | .ok (.ret v) => v = .none ∧ Q (.done (.ret (.ref (h.objs.size + 1)))) s' | .ok _ => False | .error e => E e s')
      ⟨(h.push (W.kdv_tup rest)).push (excO C h.objs.size), g, d, t, os⟩) :
    wpAny (model prog w) A (Builtin.«type.__call__» ⟨.ref C :: rest, kw⟩) Q E ⟨h, g, d, t, os⟩ := by
  repeat (first | with_reducible refine wpAny_loadPart_at hC ?_ | with_reducible refine wpAny_madeBy_exc hC ?_ | wp_step)
  refine codeAny_call_builtin_code (Code.quiet_builtin _ F.quiet) (check_newK F hT hC ?_)
  refine new_K F hT hC hrest ?_
  show wpAny _ _ _ _ _ _
  have k : ∀ b o, h.get? b = some o → ((h.push (W.kdv_tup rest)).push (excO C h.objs.size)).get? b = some o := fun b o e => Heap.get?_push_of_some _ (Heap.get?_push_of_some _ e)
  have hC₁ := k _ _ hC
  have hget : ((h.push (W.kdv_tup rest)).push (excO C h.objs.size)).get? (h.objs.size + 1) = some (excO C h.objs.size) := by heap_get
  have hcC : (Value.ref C :: bm).contains (.ref C) = true := by simp
  have i1 := hi.keeps k
  have b1 := (hb (.ref (h.objs.size + 1))).keeps k
  unfold isInstance
  repeat (first | with_reducible refine wpAny_loadPart_at hget ?_ | (with_reducible refine wpAny_isSubtype_exc hC₁ ?_; rw [hcC]) | wp_step)
  show wpAny _ _ (typeLookup (.ref C) _) _ _ _
  refine i1.at ?_
  refine wpAny_holding (wpAny_bind (b1.at ?_))
  refine wpAny_bind (wpAny_call (codeAny_mono hq fun r s' z => ?_))
  rcases r with e | (v | _ | _ | _) <;> first | exact z | exact z.elim | skip
  obtain ⟨rfl, z⟩ := z
  first
    | exact wpAny_pure (wpAny_pure z)
    | (wp_walk; exact z)
theorem call_K (F : ExcBaseFacts B newId initId bmB) (hT : ∀ X : String, bm.contains (.type X) = bmB.contains (.type X)) {rest : List Value} {kw : List (Str × Value)} {fI : Addr}
    (hC : h.get? C = some (excClassObj nm q C N bs bm hdct sn sub ab col dd k0 k1 k2 k3 k5 newId))
    (hi : W.Looks (model prog w) h (typeLookup (.ref C) "__init__") (some (.ref fI))) (hb : ∀ self, W.Looks (model prog w) h (bindSpecial (.ref fI) self) (.ref fI, [self])) (hrest : rest.length ≤ sizeLine)
    (hq : codeAny (model prog w) (A.under (.builtin "type.__call__" ⟨.ref C :: rest, kw⟩)) (.call (.ref fI) ⟨.ref (h.objs.size + 1) :: rest, kw⟩) (W.InitBack (h.objs.size + 1) R)
      ⟨(h.push (W.kdv_tup rest)).push (excO C h.objs.size), g, d, t, os⟩) :
    codeAny (model prog w) A (.call (.ref C) ⟨rest, kw⟩) R ⟨h, g, d, t, os⟩ := by
  have f1 := tc_lookup
  have f2 := tc_bind (.ref C)
  have hTy : (⟨h, g, d, t, os⟩ : Shared).TypeIs (.ref C) "type" := ⟨_, hC, rfl⟩
  refine codeAny_of_tree ?_
  show wpAny _ _ (callAny (.ref C) _) _ _ _
  repeat (any_goals (first | assumption | with_reducible refine wpAny_loadPart_at hC ?_ | wp_step))
  refine ⟨rfl, ?_⟩
  refine codeAny_call_builtin_at (Code.quiet_builtin _ (by decide +kernel)) entry_typeCall (wpAny_check_type_call_sub hC (type_callK F hT hC hi hb hrest ?_))
  refine codeAny_mono hq fun r s' z => ?_
  rcases r with e | (v | _ | _ | _) <;> exact z
end
end Cb

end

section
set_option maxRecDepth 100000
set_option maxHeartbeats 4000000
namespace Cb
open PySem PySem.Spec PySem.W PySem.Calls PyProof.Rows PySem.HandSPX Builtin Builtin.ObjectAttr
/-- what the written part says of an error class x at C -/
structure ErrTxt (K : Frag) (mg : Str → Option Value) (b : ErrB) (x : Str) (C : Addr) : Prop where
  ok : BOk b
  gC : mg x = some (.ref C)
  ini : excInitIn K C b.tl b.newId = true
  over : excOver K C b.tl = true
  sa : findIn K (.ref C) "__setattr__" = some (some (.builtin "object.__setattr__"))
  ga : findIn K (.ref C) "__getattribute__" = some (some (.builtin "BaseException.__getattribute__"))
  gg : findIn K (.ref C) "__getattr__" = some none
  kC : keepIn K (.ref C) = true
  exC : subIn K (.ref C) (.type "BaseException") = some true
  tyC : typeIn K (.ref C) = some (.type "type")
  hdC : hasDictIn K C = true
/-- the text of __init__(self, f): self.f = f -/
def iA (f : Str) (p1 p2 : Pos) : Arguments := { posonlyargs := [], args := [{ arg := "self", annotation := none, pos := p1 }, { arg := f, annotation := none, pos := p2 }], vararg := none, kwonlyargs := [], kw_defaults := [], kwarg := none, defaults := [] }
def iB (f : Str) (q1 q2 q3 q4 : Pos) : List Stmt := [.Assign [.Attribute (.Name "self" q1) f q2] (.Name f q3) q4]
def iS (f : Str) : Scope := { kind := .function, names := [("self", .local), (f, .local)], isGenerator := false, isCoroutine := false, more := [] }
structure Init1 (K : Frag) (C fI : Addr) (qn f : Str) : Prop where
  iC : findIn K (.ref C) "__init__" = some (some (.ref fI))
  tC : typeIn K (.ref fI) = some (.type "function")
  noN : findIn K (.ref C) f = some none
  fn : ∃ (oc : Value) (od : Option Addr) (doc pm : Value) (an : Option Addr) (cdv ct : Value) (osl : Array (Option Value)) (p1 p2 q1 q2 q3 q4 : Pos),
    K.lookup fI = some ⟨oc, od, .func (fnOf "__init__" qn (iA f p1 p2) (iB f q1 q2 q3 q4) (iS f) .none .none doc pm an cdv ct), osl⟩ ∧ codeIn K cdv qn = true
  ne1 : (f == ("self" : Str)) = false
  ne2 : (f == ("__debug__" : Str)) = false
theorem hasDict_cd {K : Frag} {C : Addr} (h : hasDictIn K C = true) : ∃ cd, clsIn K C = some cd ∧ cd.hasDict = true := by
  obtain ⟨cd, h1, h2⟩ := any_some h
  exact ⟨cd, h1, h2⟩
section
variable {prog : Program} {w : World} {A : Around} {E : Value → Shared → Prop} {R : Result → Shared → Prop} {hp : Heap} {g : Array GenState} {d : Drawn} {t : Nat} {os : OsState} {K : Frag} {mg : Str → Option Value} {b : ErrB} {x : Str} {C : Addr}
/-- the first field stored -/
theorem osaE {name : Str} {tk : Tok} {v : Value} {xa t0 : Addr} (T : ErrTxt K mg b x C) (X : K.In hp) (hx : hp.get? xa = some (excO C t0)) (ha : findIn K (.ref C) name = some none)
    (hq : ∀ h' tk' dx, (∀ b o, b ≠ xa → hp.get? b = some o → h'.get? b = some o) → hp.objs.size ≤ dx → dx ≠ xa → h'.get? xa = some { cls := .ref C, dict := some dx, data := .fields #[.ref t0, .none, .none, .none, .bool false, .none] } →
      h'.Ns1 dx (fun y => if y = name then some v else none) → R (.ok (.ret .none)) ⟨h', g, d, tk', os⟩) :
    codeAny (model prog w) A (.call (.builtin "object.__setattr__") ⟨[.ref xa, .str name tk, v], []⟩) R ⟨hp, g, d, t, os⟩ := by
  have I : InstAt hp xa (excO C t0) C none := ⟨hx, rfl, rfl, trivial⟩
  have hxs : xa ≠ hp.objs.size := Nat.ne_of_lt (Heap.lt_size hx)
  obtain ⟨cd, hcd, hh⟩ := hasDict_cd T.hdC
  have hcls : Looks (model prog w) hp (classData C) cd := looks_clsIn X hcd
  have htk : takerIn K C name = some none := by
    unfold takerIn
    rw [ha]
    rfl
  refine osa_openX (s := ⟨hp, g, d, t, os⟩) T.ok.S X I T.over htk (fun fl => ?_)
  show wpAny _ _ (storeInOwnDict (.ref xa) (.ref C) (.str name tk) name v fl) _ _ _
  obtain ⟨nm, bs, mro, ns, qn, hd, sn, sb, ab, col, del⟩ := cd
  dsimp only at hh
  subst hh
  unfold storeInOwnDict ownDictForStores
  cases fl
  all_goals
    repeat (first | with_reducible refine store_in_new ?_ ?_ | with_reducible refine wpAny_loadPart_at hx ?_ | with_reducible refine hcls.at ?_ | wp_step)
  all_goals first
    | (exact ⟨_, #[], _, (Heap.get?_update_ne _ _ _ _ hxs.symm).trans (Heap.get?_push_at rfl rfl), rfl, fun e he => absurd he (by simp), fun _ => rfl⟩)
    | (intro h' tk' hn' hs
       have hx₁ : (hp.push { cls := .type "dict", data := .dict #[] }).get? xa = some (excO C t0) := Heap.get?_push_of_some _ hx
       refine hq h' tk' hp.objs.size (fun b o hb ho => ?_) (Nat.le_refl _) hxs.symm ?_ hn'
       · exact (hs.2 b (Nat.ne_of_lt (Heap.lt_size ho))).trans ((Heap.get?_update_ne _ _ _ _ hb).trans (Heap.get?_push_of_some _ ho))
       · exact (hs.2 xa hxs).trans (Heap.get?_update_self _ hx₁ rfl))
/-- a further field stored -/
theorem osaE2 {name : Str} {tk : Tok} {v : Value} {xa t0 dx : Addr} {m0 : Str → Option Value} {nl : List Str} (T : ErrTxt K mg b x C) (X : K.In hp) (hx : hp.get? xa = some { cls := .ref C, dict := some dx, data := .fields #[.ref t0, .none, .none, .none, .bool false, .none] }) (hns : hp.Ns1 dx m0) (hw : Within m0 nl) (hz : nl.length ≤ 900) (ha : findIn K (.ref C) name = some none)
    (hq : ∀ h' tk', (∀ b o, b ≠ dx → hp.get? b = some o → h'.get? b = some o) → h'.Ns1 dx (fun y => if y = name then some v else m0 y) → R (.ok (.ret .none)) ⟨h', g, d, tk', os⟩) :
    codeAny (model prog w) A (.call (.builtin "object.__setattr__") ⟨[.ref xa, .str name tk, v], []⟩) R ⟨hp, g, d, t, os⟩ := by
  obtain ⟨oD, esD, epD, hoD, hdD, _⟩ := hns.count hw
  have I : InstAt hp xa { cls := .ref C, dict := some dx, data := .fields #[.ref t0, .none, .none, .none, .bool false, .none] } C (some oD) := ⟨hx, rfl, rfl, hoD⟩
  obtain ⟨cd, hcd, hh⟩ := hasDict_cd T.hdC
  have hcls : Looks (model prog w) hp (classData C) cd := looks_clsIn X hcd
  have htk : takerIn K C name = some none := by
    unfold takerIn
    rw [ha]
    rfl
  refine osa_openX (s := ⟨hp, g, d, t, os⟩) T.ok.S X I T.over htk (fun fl => ?_)
  show wpAny _ _ (storeInOwnDict (.ref xa) (.ref C) (.str name tk) name v fl) _ _ _
  obtain ⟨nm, bs, mro, ns, qn, hd, sn, sb, ab, col, del⟩ := cd
  dsimp only at hh
  subst hh
  unfold storeInOwnDict ownDictForStores
  cases fl
  all_goals
    repeat (first | with_reducible refine PySem.OEX.store_in_old hns hw (Nat.le_trans hz (by decide)) ?_ | with_reducible refine wpAny_loadPart_at hx ?_ | with_reducible refine hcls.at ?_ | wp_step)
  all_goals
    intro h' tk' hn' hs
    exact hq h' tk' (fun b o hb ho => (hs.2 b hb).trans ho) hn'
/-- what __init__ leaves of a fresh error at xa: its dict dx says m -/
structure InitEnd (h h' : Heap) (xa C dx t1 : Addr) (m : Str → Option Value) : Prop where
  keep : ∀ b o, b ≠ xa → h.get? b = some o → h'.get? b = some o
  obj : h'.get? xa = some { cls := .ref C, dict := some dx, data := .fields #[.ref t1, .none, .none, .none, .bool false, .none] }
  dbig : h.objs.size ≤ dx
  dne : dx ≠ xa
  ns : h'.Ns1 dx m
theorem ldE {M : Model} {s : Shared} {name : Str} {scope : Scope} {L a : Addr} {cd : Value} {m : Str → Option Value} {x : Str} {pos : Pos} {v : Value} {Q : Value → Shared → Prop} {A : Around} {E : Value → Shared → Prop} (hn : s.heap.Ns L m) (hv : m x = some v) (h : Q v s)
    (hk : scope.kind = .function) (hl : (envOfC name scope L a cd).kindOf x = some .local) (hd : (x == ("__debug__" : Str)) = false) :
    wpAny M A (eval (.Name x pos) (envOfC name scope L a cd)) Q E s := wpAny_Name (wpAny_loadName_local hk hl hn hv h) hd
end
end Cb

end

section
set_option maxRecDepth 100000
set_option maxHeartbeats 4000000
namespace Cb
open PySem PySem.Spec PySem.W PySem.Calls PyProof.Rows PySem.HandSPX Builtin Builtin.ObjectAttr
/-- what an __init__ does: called with the args of G on a fresh error of the class at C, it leaves the fields m; G: args without self, and the fields -/
def InitDoes (K : Frag) (C fI : Addr) (args : List Value) (kw : List (Str × Value)) (m : Str → Option Value) : Prop :=
  ∀ (prog : Program) (w : World) (A : Around) (R : Result → Shared → Prop) (s : Shared) (xa t0 : Addr), K.In s.heap → s.heap.NoLimit → s.heap.get? xa = some (excO C t0) → K.lookup xa = none → A.depth < recursionLimit →
    (∀ h' tk dx, InitEnd s.heap h' xa C dx t0 m → R (.ok (.ret .none)) { s with heap := h', toks := tk }) →
    codeAny (model prog w) A (.call (.ref fI) ⟨.ref xa :: args, kw⟩) R s
section
variable {K : Frag} {mg : Str → Option Value} {b : ErrB} {x qn : Str} {C fI : Addr}
theorem init_value {args : List Value} {kw : List (Str × Value)} {v : Value} (T : ErrTxt K mg b x C) (J : Init1 K C fI qn "value") (ha : (args = [v] ∧ kw = []) ∨ (args = [] ∧ kw = [(("value" : Str), v)])) :
    InitDoes K C fI args kw (fun y => if y = "value" then some v else none) := by
  intro prog w A R s xa t0 X hlim hx hnx hroom hq
  obtain ⟨oc, od, doc, pm, an, cdv, ct, osl, p1, p2, q1, q2, q3, q4, ho, hcd⟩ := J.fn
  have hbd : BindsTo s (fnOf "__init__" qn (iA "value" p1 p2) (iB "value" q1 q2 q3 q4) (iS "value") .none .none doc pm an cdv ct) ⟨.ref xa :: args, kw⟩ [("self", .ref xa), ("value", v)] := by
    rcases ha with ⟨rfl, rfl⟩ | ⟨rfl, rfl⟩ <;> exact BindsTo.of_eq (by first | rfl | with_unfolding_all rfl)
  refine Att.call_fn (binds := [("self", .ref xa), ("value", v)]) X hlim ho hcd hroom hbd (by first | rfl | decide | with_unfolding_all rfl) (fun s₁ IC => ?_) rfl rfl rfl
  obtain ⟨h₁, tk₁, rfl⟩ := IC.toInCall.same
  have k : ∀ b o, s.heap.get? b = some o → h₁.get? b = some o := IC.toInCall.keep
  have hn := IC.toInCall.ns
  have X₁ : K.In h₁ := X.keeps k
  have hx₁ := k _ _ hx
  show wpAny _ _ (execs _ _) _ _ _
  refine wpAny_execs_cons (plainObj_wpAny_Assign_Attribute ?_)
  refine ldE (v := v) hn (by first | rfl | with_unfolding_all rfl | kernel_rfl) (ldE (v := .ref xa) hn (by first | rfl | with_unfolding_all rfl | kernel_rfl) ?_ rfl rfl (by decide)) rfl rfl (by decide)
  refine set_plain X₁ (ox := excO C t0) (od := none) ⟨hx₁, rfl, rfl, trivial⟩ T.sa ?_
  refine osaE T X₁ hx₁ J.noN (fun h₃ tk₃ dx k₃ dn dne hx₃ hn₃ => ?_)
  show wpAny _ _ (execs _ _) _ _ _
  have z : s.heap.objs.size < h₁.objs.size := hn.lt
  exact wpAny_execs_nil (hq h₃ tk₃ dx ⟨fun b o hb e => k₃ b o hb (k b o e), hx₃, Nat.le_of_lt (Nat.lt_of_lt_of_le z dn), dne, hn₃⟩)
theorem init_index {args : List Value} {kw : List (Str × Value)} {v : Value} (T : ErrTxt K mg b x C) (J : Init1 K C fI qn "index") (ha : (args = [v] ∧ kw = []) ∨ (args = [] ∧ kw = [(("index" : Str), v)])) :
    InitDoes K C fI args kw (fun y => if y = "index" then some v else none) := by
  intro prog w A R s xa t0 X hlim hx hnx hroom hq
  obtain ⟨oc, od, doc, pm, an, cdv, ct, osl, p1, p2, q1, q2, q3, q4, ho, hcd⟩ := J.fn
  have hbd : BindsTo s (fnOf "__init__" qn (iA "index" p1 p2) (iB "index" q1 q2 q3 q4) (iS "index") .none .none doc pm an cdv ct) ⟨.ref xa :: args, kw⟩ [("self", .ref xa), ("index", v)] := by
    rcases ha with ⟨rfl, rfl⟩ | ⟨rfl, rfl⟩ <;> exact BindsTo.of_eq (by first | rfl | with_unfolding_all rfl)
  refine Att.call_fn (binds := [("self", .ref xa), ("index", v)]) X hlim ho hcd hroom hbd (by first | rfl | decide | with_unfolding_all rfl) (fun s₁ IC => ?_) rfl rfl rfl
  obtain ⟨h₁, tk₁, rfl⟩ := IC.toInCall.same
  have k : ∀ b o, s.heap.get? b = some o → h₁.get? b = some o := IC.toInCall.keep
  have hn := IC.toInCall.ns
  have X₁ : K.In h₁ := X.keeps k
  have hx₁ := k _ _ hx
  show wpAny _ _ (execs _ _) _ _ _
  refine wpAny_execs_cons (plainObj_wpAny_Assign_Attribute ?_)
  refine ldE (v := v) hn (by first | rfl | with_unfolding_all rfl | kernel_rfl) (ldE (v := .ref xa) hn (by first | rfl | with_unfolding_all rfl | kernel_rfl) ?_ rfl rfl (by decide)) rfl rfl (by decide)
  refine set_plain X₁ (ox := excO C t0) (od := none) ⟨hx₁, rfl, rfl, trivial⟩ T.sa ?_
  refine osaE T X₁ hx₁ J.noN (fun h₃ tk₃ dx k₃ dn dne hx₃ hn₃ => ?_)
  show wpAny _ _ (execs _ _) _ _ _
  have z : s.heap.objs.size < h₁.objs.size := hn.lt
  exact wpAny_execs_nil (hq h₃ tk₃ dx ⟨fun b o hb e => k₃ b o hb (k b o e), hx₃, Nat.le_of_lt (Nat.lt_of_lt_of_le z dn), dne, hn₃⟩)
theorem init_line {args : List Value} {kw : List (Str × Value)} {v : Value} (T : ErrTxt K mg b x C) (J : Init1 K C fI qn "line") (ha : (args = [v] ∧ kw = []) ∨ (args = [] ∧ kw = [(("line" : Str), v)])) :
    InitDoes K C fI args kw (fun y => if y = "line" then some v else none) := by
  intro prog w A R s xa t0 X hlim hx hnx hroom hq
  obtain ⟨oc, od, doc, pm, an, cdv, ct, osl, p1, p2, q1, q2, q3, q4, ho, hcd⟩ := J.fn
  have hbd : BindsTo s (fnOf "__init__" qn (iA "line" p1 p2) (iB "line" q1 q2 q3 q4) (iS "line") .none .none doc pm an cdv ct) ⟨.ref xa :: args, kw⟩ [("self", .ref xa), ("line", v)] := by
    rcases ha with ⟨rfl, rfl⟩ | ⟨rfl, rfl⟩ <;> exact BindsTo.of_eq (by first | rfl | with_unfolding_all rfl)
  refine Att.call_fn (binds := [("self", .ref xa), ("line", v)]) X hlim ho hcd hroom hbd (by first | rfl | decide | with_unfolding_all rfl) (fun s₁ IC => ?_) rfl rfl rfl
  obtain ⟨h₁, tk₁, rfl⟩ := IC.toInCall.same
  have k : ∀ b o, s.heap.get? b = some o → h₁.get? b = some o := IC.toInCall.keep
  have hn := IC.toInCall.ns
  have X₁ : K.In h₁ := X.keeps k
  have hx₁ := k _ _ hx
  show wpAny _ _ (execs _ _) _ _ _
  refine wpAny_execs_cons (plainObj_wpAny_Assign_Attribute ?_)
  refine ldE (v := v) hn (by first | rfl | with_unfolding_all rfl | kernel_rfl) (ldE (v := .ref xa) hn (by first | rfl | with_unfolding_all rfl | kernel_rfl) ?_ rfl rfl (by decide)) rfl rfl (by decide)
  refine set_plain X₁ (ox := excO C t0) (od := none) ⟨hx₁, rfl, rfl, trivial⟩ T.sa ?_
  refine osaE T X₁ hx₁ J.noN (fun h₃ tk₃ dx k₃ dn dne hx₃ hn₃ => ?_)
  show wpAny _ _ (execs _ _) _ _ _
  have z : s.heap.objs.size < h₁.objs.size := hn.lt
  exact wpAny_execs_nil (hq h₃ tk₃ dx ⟨fun b o hb e => k₃ b o hb (k b o e), hx₃, Nat.le_of_lt (Nat.lt_of_lt_of_le z dn), dne, hn₃⟩)
theorem init_function {args : List Value} {kw : List (Str × Value)} {v : Value} (T : ErrTxt K mg b x C) (J : Init1 K C fI qn "function") (ha : (args = [v] ∧ kw = []) ∨ (args = [] ∧ kw = [(("function" : Str), v)])) :
    InitDoes K C fI args kw (fun y => if y = "function" then some v else none) := by
  intro prog w A R s xa t0 X hlim hx hnx hroom hq
  obtain ⟨oc, od, doc, pm, an, cdv, ct, osl, p1, p2, q1, q2, q3, q4, ho, hcd⟩ := J.fn
  have hbd : BindsTo s (fnOf "__init__" qn (iA "function" p1 p2) (iB "function" q1 q2 q3 q4) (iS "function") .none .none doc pm an cdv ct) ⟨.ref xa :: args, kw⟩ [("self", .ref xa), ("function", v)] := by
    rcases ha with ⟨rfl, rfl⟩ | ⟨rfl, rfl⟩ <;> exact BindsTo.of_eq (by first | rfl | with_unfolding_all rfl)
  refine Att.call_fn (binds := [("self", .ref xa), ("function", v)]) X hlim ho hcd hroom hbd (by first | rfl | decide | with_unfolding_all rfl) (fun s₁ IC => ?_) rfl rfl rfl
  obtain ⟨h₁, tk₁, rfl⟩ := IC.toInCall.same
  have k : ∀ b o, s.heap.get? b = some o → h₁.get? b = some o := IC.toInCall.keep
  have hn := IC.toInCall.ns
  have X₁ : K.In h₁ := X.keeps k
  have hx₁ := k _ _ hx
  show wpAny _ _ (execs _ _) _ _ _
  refine wpAny_execs_cons (plainObj_wpAny_Assign_Attribute ?_)
  refine ldE (v := v) hn (by first | rfl | with_unfolding_all rfl | kernel_rfl) (ldE (v := .ref xa) hn (by first | rfl | with_unfolding_all rfl | kernel_rfl) ?_ rfl rfl (by decide)) rfl rfl (by decide)
  refine set_plain X₁ (ox := excO C t0) (od := none) ⟨hx₁, rfl, rfl, trivial⟩ T.sa ?_
  refine osaE T X₁ hx₁ J.noN (fun h₃ tk₃ dx k₃ dn dne hx₃ hn₃ => ?_)
  show wpAny _ _ (execs _ _) _ _ _
  have z : s.heap.objs.size < h₁.objs.size := hn.lt
  exact wpAny_execs_nil (hq h₃ tk₃ dx ⟨fun b o hb e => k₃ b o hb (k b o e), hx₃, Nat.le_of_lt (Nat.lt_of_lt_of_le z dn), dne, hn₃⟩)
theorem init_count {args : List Value} {kw : List (Str × Value)} {v : Value} (T : ErrTxt K mg b x C) (J : Init1 K C fI qn "count") (ha : (args = [v] ∧ kw = []) ∨ (args = [] ∧ kw = [(("count" : Str), v)])) :
    InitDoes K C fI args kw (fun y => if y = "count" then some v else none) := by
  intro prog w A R s xa t0 X hlim hx hnx hroom hq
  obtain ⟨oc, od, doc, pm, an, cdv, ct, osl, p1, p2, q1, q2, q3, q4, ho, hcd⟩ := J.fn
  have hbd : BindsTo s (fnOf "__init__" qn (iA "count" p1 p2) (iB "count" q1 q2 q3 q4) (iS "count") .none .none doc pm an cdv ct) ⟨.ref xa :: args, kw⟩ [("self", .ref xa), ("count", v)] := by
    rcases ha with ⟨rfl, rfl⟩ | ⟨rfl, rfl⟩ <;> exact BindsTo.of_eq (by first | rfl | with_unfolding_all rfl)
  refine Att.call_fn (binds := [("self", .ref xa), ("count", v)]) X hlim ho hcd hroom hbd (by first | rfl | decide | with_unfolding_all rfl) (fun s₁ IC => ?_) rfl rfl rfl
  obtain ⟨h₁, tk₁, rfl⟩ := IC.toInCall.same
  have k : ∀ b o, s.heap.get? b = some o → h₁.get? b = some o := IC.toInCall.keep
  have hn := IC.toInCall.ns
  have X₁ : K.In h₁ := X.keeps k
  have hx₁ := k _ _ hx
  show wpAny _ _ (execs _ _) _ _ _
  refine wpAny_execs_cons (plainObj_wpAny_Assign_Attribute ?_)
  refine ldE (v := v) hn (by first | rfl | with_unfolding_all rfl | kernel_rfl) (ldE (v := .ref xa) hn (by first | rfl | with_unfolding_all rfl | kernel_rfl) ?_ rfl rfl (by decide)) rfl rfl (by decide)
  refine set_plain X₁ (ox := excO C t0) (od := none) ⟨hx₁, rfl, rfl, trivial⟩ T.sa ?_
  refine osaE T X₁ hx₁ J.noN (fun h₃ tk₃ dx k₃ dn dne hx₃ hn₃ => ?_)
  show wpAny _ _ (execs _ _) _ _ _
  have z : s.heap.objs.size < h₁.objs.size := hn.lt
  exact wpAny_execs_nil (hq h₃ tk₃ dx ⟨fun b o hb e => k₃ b o hb (k b o e), hx₃, Nat.le_of_lt (Nat.lt_of_lt_of_le z dn), dne, hn₃⟩)
/-- __init__(self, function, path) -/
def iA2 (p1 p2 p3 : Pos) : Arguments := { posonlyargs := [], args := [{ arg := "self", annotation := none, pos := p1 }, { arg := "function", annotation := none, pos := p2 }, { arg := "path", annotation := none, pos := p3 }], vararg := none, kwonlyargs := [], kw_defaults := [], kwarg := none, defaults := [] }
def iB2 (q1 q2 q3 q4 r1 r2 r3 r4 : Pos) : List Stmt := [.Assign [.Attribute (.Name "self" q1) "function" q2] (.Name "function" q3) q4, .Assign [.Attribute (.Name "self" r1) "path" r2] (.Name "path" r3) r4]
def iS2 : Scope := { kind := .function, names := [("self", .local), ("function", .local), ("path", .local)], isGenerator := false, isCoroutine := false, more := [] }
structure Init2 (K : Frag) (C fI : Addr) (qn : Str) : Prop where
  iC : findIn K (.ref C) "__init__" = some (some (.ref fI))
  tC : typeIn K (.ref fI) = some (.type "function")
  noF : findIn K (.ref C) "function" = some none
  noP : findIn K (.ref C) "path" = some none
  fn : ∃ (oc : Value) (od : Option Addr) (doc pm : Value) (an : Option Addr) (cdv ct : Value) (osl : Array (Option Value)) (p1 p2 p3 q1 q2 q3 q4 r1 r2 r3 r4 : Pos),
    K.lookup fI = some ⟨oc, od, .func (fnOf "__init__" qn (iA2 p1 p2 p3) (iB2 q1 q2 q3 q4 r1 r2 r3 r4) iS2 .none .none doc pm an cdv ct), osl⟩ ∧ codeIn K cdv qn = true
theorem within_if (v : Value) : Within (fun y => if y = ("function" : Str) then some v else none) ["function"] := fun y hy => by
  by_cases h : y = "function"
  · rw [h]
    exact List.mem_cons_self ..
  · exact absurd (if_neg h) hy
theorem ns_at {h h' : Heap} {a : Addr} {m : Str → Option Value} (hn : h.Ns a m) (k : ∀ o, h.get? a = some o → h'.get? a = some o) : h'.Ns a m := by
  obtain ⟨o, es, ep, e1, e2⟩ := hn
  exact ⟨o, es, ep, k _ e1, e2⟩
theorem init_two {args : List Value} {kw : List (Str × Value)} {v u : Value} (T : ErrTxt K mg b x C) (J : Init2 K C fI qn) (ha : (args = [v, u] ∧ kw = []) ∨ (args = [] ∧ kw = [(("path" : Str), u), (("function" : Str), v)])) :
    InitDoes K C fI args kw (fun y => if y = "path" then some u else if y = "function" then some v else none) := by
  intro prog w A R s xa t0 X hlim hx hnx hroom hq
  obtain ⟨oc, od, doc, pm, an, cdv, ct, osl, p1, p2, p3, q1, q2, q3, q4, r1, r2, r3, r4, ho, hcd⟩ := J.fn
  have hbd : BindsTo s (fnOf "__init__" qn (iA2 p1 p2 p3) (iB2 q1 q2 q3 q4 r1 r2 r3 r4) iS2 .none .none doc pm an cdv ct) ⟨.ref xa :: args, kw⟩ [("self", .ref xa), ("function", v), ("path", u)] := by
    rcases ha with ⟨rfl, rfl⟩ | ⟨rfl, rfl⟩ <;> exact BindsTo.of_eq (by first | rfl | with_unfolding_all rfl)
  refine Att.call_fn (binds := [("self", .ref xa), ("function", v), ("path", u)]) X hlim ho hcd hroom hbd (by first | rfl | decide | with_unfolding_all rfl) (fun s₁ IC => ?_) rfl rfl rfl
  obtain ⟨h₁, tk₁, rfl⟩ := IC.toInCall.same
  have k : ∀ b o, s.heap.get? b = some o → h₁.get? b = some o := IC.toInCall.keep
  have hn := IC.toInCall.ns
  have X₁ : K.In h₁ := X.keeps k
  have hx₁ := k _ _ hx
  have hL : s.heap.objs.size ≠ xa := Nat.ne_of_gt (Heap.lt_size hx)
  show wpAny _ _ (execs _ _) _ _ _
  refine wpAny_execs_cons (plainObj_wpAny_Assign_Attribute ?_)
  refine ldE (v := v) hn (by first | rfl | with_unfolding_all rfl | kernel_rfl) (ldE (v := .ref xa) hn (by first | rfl | with_unfolding_all rfl | kernel_rfl) ?_ rfl rfl (by decide)) rfl rfl (by decide)
  refine set_plain X₁ (ox := excO C t0) (od := none) ⟨hx₁, rfl, rfl, trivial⟩ T.sa ?_
  refine osaE T X₁ hx₁ J.noF (fun h₃ tk₃ dx k₃ dn dne hx₃ hn₃ => ?_)
  have z : s.heap.objs.size < h₁.objs.size := hn.lt
  have X₃ : K.In h₃ := fun a o e => k₃ a o (fun z => by rw [z, hnx] at e; cases e) (X₁ a o e)
  have hnL := ns_at hn fun o e => k₃ _ o hL e
  show wpAny _ _ (execs _ _) _ _ _
  refine wpAny_execs_cons (plainObj_wpAny_Assign_Attribute ?_)
  refine ldE (v := u) hnL (by first | rfl | with_unfolding_all rfl | kernel_rfl) (ldE (v := .ref xa) hnL (by first | rfl | with_unfolding_all rfl | kernel_rfl) ?_ rfl rfl (by decide)) rfl rfl (by decide)
  obtain ⟨oD, _, _, hoD, _, _⟩ := hn₃.count (within_if v)
  refine set_plain X₃ (ox := { cls := .ref C, dict := some dx, data := .fields #[.ref t0, .none, .none, .none, .bool false, .none] }) (od := some oD) ⟨hx₃, rfl, rfl, hoD⟩ T.sa ?_
  refine osaE2 T X₃ hx₃ hn₃ (within_if v) (by decide) J.noP (fun h₄ tk₄ k₄ hn₄ => ?_)
  show wpAny _ _ (execs _ _) _ _ _
  exact wpAny_execs_nil (hq h₄ tk₄ dx ⟨fun b o hb e => k₄ b o (Nat.ne_of_lt (Nat.lt_of_lt_of_le (Nat.lt_trans (Heap.lt_size e) z) dn)) (k₃ b o hb (k b o e)), k₄ _ _ (Ne.symm dne) hx₃, Nat.le_of_lt (Nat.lt_of_lt_of_le z dn), dne, hn₄⟩)
end
/-- a made error: its own dict d says m -/
structure Made (h h' : Heap) (e C d : Addr) (m : Str → Option Value) : Prop where
  keep : ∀ b o, h.get? b = some o → h'.get? b = some o
  new : h.objs.size ≤ e
  obj : ∃ oe vs, h'.get? e = some oe ∧ oe.cls = .ref C ∧ oe.dict = some d ∧ oe.data = .fields vs ∧ vs[1]? = some .none
  dbig : h.objs.size ≤ d
  dne : d ≠ e
  ns : h'.Ns1 d m
section
variable {prog : Program} {w : World} {A : Around} {R : Result → Shared → Prop} {s : Shared} {K : Frag} {mg : Str → Option Value} {b : ErrB} {x : Str} {C fI : Addr}
theorem made_err {args : List Value} {kw : List (Str × Value)} {m : Str → Option Value} (T : ErrTxt K mg b x C) (iC : findIn K (.ref C) "__init__" = some (some (.ref fI))) (tC : typeIn K (.ref fI) = some (.type "function")) (D : InitDoes K C fI args kw m) (X : K.In s.heap) (hlim : s.heap.NoLimit) (hroom : A.depth + 1 < recursionLimit) (hl : args.length ≤ sizeLine)
    (hq : ∀ h' tk e d, Made s.heap h' e C d m → R (.ok (.ret (.ref e))) { s with heap := h', toks := tk }) :
    codeAny (model prog w) A (.call (.ref C) ⟨args, kw⟩) R s := by
  obtain ⟨nm, N, qn, bs, bm, hdct, sn, sub, ab, col, dd, k0, k1, k2, k3, k5, hC, hT⟩ := excInit_of X T.ini
  obtain ⟨hp, g, dr, tk, os⟩ := s
  have k : ∀ b o, hp.get? b = some o → ((hp.push (kdv_tup args)).push (excO C hp.objs.size)).get? b = some o := fun b o e => Heap.get?_push_of_some _ (Heap.get?_push_of_some _ e)
  have hget : ((hp.push (kdv_tup args)).push (excO C hp.objs.size)).get? (hp.objs.size + 1) = some (excO C hp.objs.size) := by heap_get
  have hnx : K.lookup (hp.objs.size + 1) = none := by
    cases e : K.lookup (hp.objs.size + 1) with
    | none => rfl
    | some o =>
      have z : hp.get? (hp.objs.size + 1) = some o := X _ _ e
      exact absurd (Nat.lt_of_succ_lt (Heap.lt_size z)) (Nat.lt_irrefl _)
  refine call_K T.ok.F hT hC (looks_findIn X iC) (fun self => bind_fn X self tC) hl ?_
  refine D prog w _ _ ⟨(hp.push (kdv_tup args)).push (excO C hp.objs.size), g, dr, tk, os⟩ (hp.objs.size + 1) hp.objs.size (X.keeps k) (hlim.keeps k) hget hnx ?_ fun h' tk' dx ⟨k', hx, dn, dne, hns⟩ => ?_
  · show A.depth + 1 < recursionLimit
    exact hroom
  · have old : ∀ b o, hp.get? b = some o → h'.get? b = some o := fun b o e => k' b o (Nat.ne_of_lt (Nat.lt_succ_of_lt (Heap.lt_size e))) (k b o e)
    have z : hp.objs.size + 1 + 1 ≤ dx := by
      first
        | (simpa only [Heap.size_push] using dn)
        | exact dn
        | (have q := dn; rw [Heap.size_push, Heap.size_push] at q; exact q)
    exact ⟨rfl, hq h' tk' (hp.objs.size + 1) dx ⟨old, Nat.le_succ _, ⟨_, _, hx, rfl, rfl, rfl, rfl⟩, Nat.le_trans (Nat.le_trans (Nat.le_succ _) (Nat.le_succ _)) z, dne, hns⟩⟩
end
end Cb


end

section
set_option maxRecDepth 100000
set_option maxHeartbeats 4000000
namespace Cb
open PySem PySem.Spec PyProof.Rows L2
theorem relO_one {f : Str} {v : V} {v' : Value} (r : RelV v v') (g : Str) : RelO (List.lookup g [(f, v)]) (if g = f then some v' else none) := by
  by_cases hw : g = f
  · subst hw
    rw [if_pos rfl]
    have q : List.lookup g [(g, v)] = some v := by simp [List.lookup]
    rw [q]
    exact r
  · rw [if_neg hw]
    have qw : (g == f) = false := by simpa using hw
    have q2 : List.lookup g [(f, v)] = none := by simp [List.lookup, qw]
    rw [q2]
    trivial
section
variable {X : Cx} {C fI : Addr} {b : ErrB} {x f : Str}
/-- X(e), raised: its own dict d holds the field -/
def tMkErr (C : Addr) (f : Str) (ta : TA) : L2.St → Hp → XK → Prop := fun σ H Q => ta σ H fun vs H1 => ∃ v, vs = [v] ∧ ∀ d, H1 d = none → Q (.ref C) (some d) (upd H1 d (.xd [(f, v)]))
theorem pmk_err {a : Expr} {ta : TA} {p pos : Pos} {k : Nat} (T : ErrTxt X.K X.mg b x C) (iC : PySem.W.findIn X.K (.ref C) "__init__" = some (some (.ref fI))) (tC : PySem.W.typeIn X.K (.ref fI) = some (.type "function")) (D : ∀ v, InitDoes X.K C fI [v] [] (fun y => if y = f then some v else none)) (hr : Room (k + 1) X.A) (ha : PA X [a] ta) (hg : Gl X x) (hdb : (x == ("__debug__" : Str)) = false := by decide)
    (he : starEach (a :: []) X.env = (false, eval a X.env) :: starEach [] X.env := by rfl) (hpl : (backTo pos (starEach [] X.env)).any (·.1) = false := by rfl) :
    PMk X (.Call (.Name x p) [a] [] pos) (tMkErr C f ta) := by
  intro pins s σ H Q I h
  refine wpAny_Call_Name_kw (ld_glob I hg T.gC ?_ hdb)
  refine PySem.W.callWith_K (h₀ := X.base) I.ok.mod.kin T.kC (thn (ha.run pos pins s σ H _ I h) fun us s1 hh => ?_) he hpl
  obtain ⟨vs, H1, I1, r1, v, ev, q1⟩ := hh
  subst ev
  refine ⟨I1.kIn, ?_⟩
  obtain ⟨v', rfl, rv⟩ := vals1 r1
  show wpAny _ _ (call (.ref C) [v']) _ _ _
  have hlim := I1.nolimit
  obtain ⟨hp, g, dr, tk, os⟩ := s1
  refine wpAny_call (made_err T iC tC (D v') I1.kIn hlim (by have := hr.dp; omega) (by show 1 ≤ sizeLine; decide) fun h' tk' e d M => ?_)
  show MkP X pins σ Q (.ref e) ⟨h', g, dr, tk', os⟩
  obtain ⟨oe, fv, hoe, hc, hd, hdat, h1⟩ := M.obj
  have hns := M.ns
  obtain ⟨G', g1, g2⟩ := restrict h' fun b => decide (b ≠ e)
  have gk : ∀ b, b ≠ e → G'.get? b = h'.get? b := fun b hb => g1 b (decide_eq_true hb)
  have ge : G'.get? e = none := g2 e (by simp)
  have old : ∀ b o, hp.get? b = some o → G'.get? b = some o := fun b o q => (gk b (Nat.ne_of_lt (Nat.lt_of_lt_of_le (Heap.lt_size q) M.new))).trans (M.keep b o q)
  have ob : ObjOk X.prog X.w (upd H1 d (.xd [(f, v)])) G' d (.xd [(f, v)]) :=
    ⟨_, hns.at (fun o q => (gk d M.dne).trans q), fun f => relO_one rv f⟩
  have J : Inv X pins σ (upd H1 d (.xd [(f, v)])) ⟨G', g, dr, tk', os⟩ := I1.laid (t' := tk') old M.dbig ob
  refine ⟨e, oe, fv, ⟨G', g, dr, tk', os⟩, _, .ref C, some d, rfl, J, fun b o q => ?_, ge, hoe, ⟨hc, hd⟩, hdat, h1, ?_, rfl, I1.bare, raises_own T.exC T.tyC, q1 d (I1.hok.fresh M.dbig)⟩
  · by_cases hb : b = e
    · have q' : G'.get? b = some o := q
      rw [hb, ge] at q'; cases q'
    · exact (gk b hb).symm.trans q
  · rw [upd_ne (Ne.symm M.dne)]
    exact I1.hok.fresh M.new
/-- raise X(e) -/
theorem ps_raiseE {a : Expr} {ta : TA} {W : WX} {p pos pos2 : Pos} {k : Nat} (hc : X.calm = true) (T : ErrTxt X.K X.mg b x C) (iC : PySem.W.findIn X.K (.ref C) "__init__" = some (some (.ref fI))) (tC : PySem.W.typeIn X.K (.ref fI) = some (.type "function")) (D : ∀ v, InitDoes X.K C fI [v] [] (fun y => if y = f then some v else none)) (hr : Room (k + 1) X.A) (tk : Takes X W) (ha : PA X [a] ta) (hg : Gl X x) (hdb : (x == ("__debug__" : Str)) = false := by decide)
    (he : starEach (a :: []) X.env = (false, eval a X.env) :: starEach [] X.env := by rfl) (hpl : (backTo pos (starEach [] X.env)).any (·.1) = false := by rfl) :
    PS X (.Raise (some (.Call (.Name x p) [a] [] pos)) none pos2) (fun _ σ H => tMkErr C f ta σ H fun cls d H' => W cls d σ H') := ps_raise hc tk (pmk_err T iC tC D hr ha hg hdb he hpl)
/-- the field of a made error -/
theorem get_made {pins : List (Addr × Obj)} {σ : L2.St} {H : Hp} {s : Shared} {h' : Heap} {tk : Nat} {e d : Addr} {m : Str → Option Value} {v : V} {u : Value} {Q : VK} (T : ErrTxt X.K X.mg b x C) (hno : PySem.W.findIn X.K (.ref C) f = some none) (I : Inv X pins σ H s) (M : Made s.heap h' e C d m) (hu : m f = some u) (rv : RelV v u) (q : Q v H) :
    wpAny (model X.prog X.w) X.A (getAttr (.ref e) f true) (EP X pins σ Q) X.xe { s with heap := h', toks := tk } := by
  have J : Inv X pins σ H { s with heap := h', toks := tk } := I.kept M.keep
  obtain ⟨oe, fv, hoe, hc, hd, hdat, _⟩ := M.obj
  obtain ⟨od, ho, hl⟩ := lookIn_ns M.ns
  have J1 : PySem.W.InstAt h' e oe C (some od) := ⟨hoe, hc, by unfold PySem.W.notCls; rw [hdat] <;> rfl, by rw [hd]; exact ho⟩
  exact HandSPX.exc_get J.kIn J1 T.ga T.gg T.exC (PySem.W.findObj_own T.hdC hno rfl (by rw [hl, hu])) (handed_of rv) ⟨v, H, J.tok _, rv, q⟩
/-- X(e, ..).f: the i-th argument -/
def tMkf (n i : Nat) (ta : TA) : TE := fun σ H Q => ta σ H fun vs H1 => vs.length = n ∧ ∃ v, vs[i]? = some v ∧ Q v H1
theorem pe_mkf {a : Expr} {as : List Expr} {ta : TA} {p pos pos2 : Pos} {k n i : Nat} {m : List Value → Str → Option Value} (T : ErrTxt X.K X.mg b x C) (iC : PySem.W.findIn X.K (.ref C) "__init__" = some (some (.ref fI))) (tC : PySem.W.typeIn X.K (.ref fI) = some (.type "function")) (D : ∀ us, us.length = n → InitDoes X.K C fI us [] (m us)) (hm : ∀ us, us.length = n → m us f = us[i]?) (hno : PySem.W.findIn X.K (.ref C) f = some none) (hr : Room (k + 1) X.A) (ha : PA X (a :: as) ta) (hg : Gl X x) (hdb : (x == ("__debug__" : Str)) = false := by decide) (hn : n ≤ 1000 := by decide)
    (he : starEach (a :: as) X.env = (false, eval a X.env) :: starEach as X.env := by rfl) (hpl : (backTo pos (starEach as X.env)).any (·.1) = false := by rfl) (hb : attributeBase (.Call (.Name x p) (a :: as) [] pos) f X.env (eval (.Call (.Name x p) (a :: as) [] pos) X.env) = eval (.Call (.Name x p) (a :: as) [] pos) X.env := by rfl) :
    PE X (.Attribute (.Call (.Name x p) (a :: as) [] pos) f pos2) (tMkf n i ta) := by
  refine ⟨fun pins s σ H Q I h => ?_⟩
  refine attr_of hb (wpAny_Call_Name_kw (ld_glob I hg T.gC ?_ hdb))
  refine PySem.W.callWith_K (h₀ := X.base) I.ok.mod.kin T.kC (thn (ha.run pos pins s σ H _ I h) fun us s1 hh => ?_) he hpl
  obtain ⟨vs, H1, I1, r1, hl, v, hv, q1⟩ := hh
  refine ⟨I1.kIn, ?_⟩
  obtain ⟨u, hu, rv⟩ := r1.get hv
  have hlu : us.length = n := r1.length.symm.trans hl
  have hlim := I1.nolimit
  exact wpAny_call (made_err T iC tC (D us hlu) I1.kIn hlim (by have := hr.dp; omega) (by show us.length ≤ sizeLine; rw [hlu]; exact Nat.le_trans hn (by decide)) fun h' tk' e d M => get_made T hno I1 M ((hm us hlu).trans hu) rv q1)
/-- X(k = e, ..).f -/
theorem pe_mkfK {kws : List Keyword} {ks : List Str} {ta : TA} {p pos pos2 : Pos} {k n i : Nat} {m : List Value → Str → Option Value} (T : ErrTxt X.K X.mg b x C) (iC : PySem.W.findIn X.K (.ref C) "__init__" = some (some (.ref fI))) (tC : PySem.W.typeIn X.K (.ref fI) = some (.type "function")) (D : ∀ us, us.length = n → InitDoes X.K C fI [] (ks.zip us) (m us)) (hm : ∀ us, us.length = n → m us f = us[i]?) (hno : PySem.W.findIn X.K (.ref C) f = some none) (hr : Room (k + 1) X.A) (hkw : PK X kws ta) (hg : Gl X x) (hdb : (x == ("__debug__" : Str)) = false := by decide)
    (hall : (backToKw pos (keywordEach kws X.env)).all (·.1.isSome) = true := by rfl) (hks : (backToKw pos (keywordEach kws X.env)).filterMap (·.1) = ks := by rfl) (hpl : ((backTo pos (starEach [] X.env)).any (·.1) || (backToKw pos (keywordEach kws X.env)).any (·.1.isNone)) = false := by rfl)
    (hb : attributeBase (.Call (.Name x p) [] kws pos) f X.env (eval (.Call (.Name x p) [] kws pos) X.env) = eval (.Call (.Name x p) [] kws pos) X.env := by rfl) :
    PE X (.Attribute (.Call (.Name x p) [] kws pos) f pos2) (tMkf n i ta) := by
  refine ⟨fun pins s σ H Q I h => ?_⟩
  refine attr_of hb (wpAny_Call_Name_kw (ld_glob I hg T.gC ?_ hdb))
  refine PySem.W.callWith_KW0 (h₀ := X.base) I.ok.mod.kin T.kC hall (thn (hkw.run pos pins s σ H _ I h) fun us s1 hh => ?_) hpl
  obtain ⟨vs, H1, I1, r1, hl, v, hv, q1⟩ := hh
  refine ⟨I1.kIn, ?_⟩
  rw [hks]
  obtain ⟨u, hu, rv⟩ := r1.get hv
  have hlu : us.length = n := r1.length.symm.trans hl
  have hlim := I1.nolimit
  exact wpAny_call (made_err T iC tC (D us hlu) I1.kIn hlim (by have := hr.dp; omega) (by decide) fun h' tk' e d M => get_made T hno I1 M ((hm us hlu).trans hu) rv q1)
end
end Cb

end

section
set_option maxRecDepth 100000
set_option maxHeartbeats 4000000
namespace Cb
open PySem PySem.Spec PyProof.Rows L2
/-- what the class D says, so that isinstance asks its instances rightly -/
structure IsC (K : PySem.W.Frag) (D : Addr) : Prop where
  cl : (PySem.W.clsIn K D).isSome = true
  hg : PySem.W.findIn K (.ref D) "__getattribute__" = some (some (.builtin "BaseException.__getattribute__"))
  hk : PySem.W.findIn K (.ref D) "__getattr__" = some none
  hs : PySem.W.subIn K (.ref D) (.type "BaseException") = some true
  ha : PySem.W.findIn K (.ref D) "__class__" = some (some (.builtin "object.__class__"))
  hn : PySem.W.specialIn K (.builtin "object.__class__") "__get__" = some (some (.builtin "getset_descriptor.__get__"))
  ht : PySem.W.takesIn K (.builtin "object.__class__") = some true
  hm : PySem.W.mroIn K D (.type "object") = some true
/-- isinstance(e, c), e a new error -/
def rIsX (K : PySem.W.Frag) (D : Addr) : List V → Hp → VK → Prop := fun xs H Q => ∃ (a : Addr) (c : V) (cv : Value) (b : Bool), xs = [.ref a, c] ∧ H a = some (ExO (.ref D) a) ∧ (∀ u, L2.RelV c u → u = cv) ∧ PySem.W.kitOne K (.ref D) cv = some b ∧ Q (.bl b) H
theorem call_isX {X : Cx} {D : Addr} (C : IsC X.K D) : CallR X (.builtin "isinstance") (rIsX X.K D) := by
  intro pins s σ H xs us Q I r h
  obtain ⟨a, c, cv, b, rfl, ha, hcv, e, q⟩ := h
  cases r with
  | cons rx rr =>
    cases rr with
    | cons rt rr =>
      cases rr
      cases rx
      have ec := hcv _ rt
      subst ec
      obtain ⟨⟨oe, vs, hget, hz, hv, _⟩, _, _⟩ := I.hok a _ ha
      have J : PySem.W.InstAt s.heap a oe D none := by
        obtain ⟨oc, od, oda, osl⟩ := oe
        obtain ⟨h1, h2⟩ := hz
        dsimp only at h1 h2 hv
        subst h1 h2 hv
        exact ⟨hget, rfl, rfl, trivial⟩
      exact PySem.W.kia_one (PySem.W.kitx_exc C.cl C.hg C.hk C.hs C.ha C.hn C.ht C.hm) I.kIn J e (fun z => nomatch z) fun tk => ⟨.bl b, H, I.kept (t' := tk) fun _ _ z => z, rfl, q⟩
/-- X(), an own class without own __init__ -/
theorem pe_exc0 {X : Cx} {C : Addr} {bmB : List Value} {B newId initId : String} {x : Str} {p pos : Pos} (F : ExcBaseFacts B newId initId bmB) (q : PySem.W.excIn X.K C bmB newId = true) (gC : X.mg x = some (.ref C)) (kC : PySem.W.keepIn X.K (.ref C) = true) (hg : Gl X x) (hdb : (x == ("__debug__" : Str)) = false := by decide) :
    PE X (.Call (.Name x p) [] [] pos) (fun σ H Q => ∀ a, H a = none → Q (.ref a) (upd H a (ExO (.ref C) a))) := by
  refine ⟨fun pins s σ H Q I h => ?_⟩
  refine wpAny_Call_Name_kw (ld_glob I hg gC ?_ hdb)
  refine PySem.W.callWith_K0 I.kIn kC ?_
  obtain ⟨bm, N, nm, qn, bs, hdct, sn, sub, ab, col, dd, k0, k1, k2, k3, k5, mN, hC, hN, hni, T⟩ := exc_obj I.kIn q
  obtain ⟨hp, g, dr, tk, os⟩ := s
  refine wpAny_call_exc_subT F T hC hN hni (fun h' a hm => ?_) (by decide)
  have hn : H a = none := I.hok.gone hm.new
  obtain ⟨t, ht, _, _⟩ := hm.there
  exact ⟨.ref a, upd H a (ExO (.ref C) a), I.laidN hm.keeps hm.new hn (exO_ok ht ⟨rfl, rfl⟩ rfl rfl rfl (show 4 < 6 by decide)), rfl, h a hn⟩
/-- isinstance(e, c), e the error that is handled, pinned; its dict is tracked -/
def rIsP (K : PySem.W.Frag) (D a dd : Addr) : List V → Hp → VK → Prop := fun xs H Q => ∃ (fs : List (Str × V)) (c : V) (cv : Value) (b : Bool), xs = [.ref a, c] ∧ H dd = some (.xd fs) ∧ (∀ u, L2.RelV c u → u = cv) ∧ PySem.W.kitOne K (.ref D) cv = some b ∧ Q (.bl b) H
theorem call_isP {X : Cx} {D dd : Addr} {p : Addr × Obj} (C : IsC X.K D) (hp : p ∈ X.pn) (hz : Zc (.ref D) (some dd) p.2) (hf : ∃ vs, p.2.data = .fields vs) : CallR X (.builtin "isinstance") (rIsP X.K D p.1 dd) := by
  intro pins s σ H xs us Q I r h
  obtain ⟨fs, c, cv, b, rfl, hdd, hcv, e, q⟩ := h
  cases r with
  | cons rx rr =>
    cases rr with
    | cons rt rr =>
      cases rr
      cases rx
      have ec := hcv _ rt
      subst ec
      obtain ⟨hget, _⟩ := I.pin p (List.mem_append.mpr (.inl hp))
      obtain ⟨vs, hv⟩ := hf
      have hx : ObjOk X.prog X.w H s.heap dd (.xd fs) := I.hok dd _ hdd
      obtain ⟨mA, hns, _⟩ := hx
      obtain ⟨od, ho, _⟩ := lookIn_ns hns
      have J : PySem.W.InstAt s.heap p.1 p.2 D (some od) := ⟨hget, hz.1, by unfold PySem.W.notCls; rw [hv] <;> rfl, by rw [hz.2]; exact ho⟩
      exact PySem.W.kia_one (PySem.W.kitx_exc C.cl C.hg C.hk C.hs C.ha C.hn C.ht C.hm) I.kIn J e (fun z => nomatch z) fun tk => ⟨.bl b, H, I.kept (t' := tk) fun _ _ z => z, rfl, q⟩
/-! ### a def called out of a suite: what it promises may speak of the error -/
/-- p's object is the error that is handled -/
def Hot0 (A : Around) (p : Addr × Obj) : Prop := A.handled = some (.ref p.1)
def FnX (P : Program) (w : World) (K : PySem.W.Frag) (mg : Str → Option Value) (base : Heap) (k : Nat) (f : Addr) (sp : Addr × Obj → Sp) : Prop :=
  ∀ (A : Around) (outer : List Env) (s : Shared) (H : Hp) (us : List Value) (vs : List V) (Q : VK) (p : Addr × Obj), L2H.RoomH k A → Hot0 A p → L2H.PinOk outer H s p → Env0 P w K mg base A outer s H → Vals vs us → sp p vs H Q (fun _ _ _ => False) →
    codeAny (model P w) A (.call (.ref f) ⟨us, []⟩) (CR CX0 outer P w H s Q (fun _ _ _ => False)) s
def GivesX (P : Program) (w : World) (K : PySem.W.Frag) (mg : Str → Option Value) (base : Heap) (k : Nat) (x : Str) (sp : Addr × Obj → Sp) : Prop :=
  ∃ f, mg x = some (.ref f) ∧ PySem.W.keepIn K (.ref f) = true ∧ FnX P w K mg base k f sp
theorem givesX_fun {P : Program} {w : World} {K : PySem.W.Frag} {mg : Str → Option Value} {base : Heap} {k : Nat} {x : Str} {st : Stmt} {N ps : List Str} {sp : Addr × Obj → Sp} (T : Stands K mg x st) (S : FnScope N ps (defScope st))
    (hb : ∀ (kV doc pm : Value) (an : Option Addr) (cdv ct : Value) (us : List Value), us.length = ps.length → bindArgs (PySem.W.fnOf x x (defArgs st) (defBody st) (defScope st) .none kV doc pm an cdv ct) ⟨us, []⟩ = pure (ps.zip us))
    (len : ∀ p vs H Q E, sp p vs H Q E → vs.length = ps.length)
    (hbody : ∀ (f : Addr) (cdv : Value) (A : Around) (outer : List Env) (s : Shared) (H : Hp) (vs : List V) (Q : VK) (p : Addr × Obj), Hot0 A p → L2H.RoomH k (A.deeper (envOfC x (defScope st) s.heap.objs.size f cdv)) → sp p vs H Q (fun _ _ _ => False) →
      ∃ t, PSs (L2H.cxH CX0 P w K mg base N x (defScope st) f cdv A outer s H (fun _ _ _ => False) p) (defBody st) t ∧ t { nx := fun _ H' => Q .non H', rt := Q } (start N vs) H) :
    GivesX P w K mg base (k + 1) x sp := by
  obtain ⟨f, fd, hm, F⟩ := T
  have kp := F.kp
  obtain ⟨oc, od, kV, doc, pm, an, cdv, ct, osl, rfl, lk, hcd⟩ := F.ex
  refine ⟨f, hm, kp, fun A outer s H us vs Q p hr hot hpin e0 r hsp => ?_⟩
  have hl := len p vs H Q _ hsp
  have KX : K.In s.heap := e0.mod.kin.keeps fun b o e => (e0.bs b o e).1
  have lim : s.heap.NoLimit := e0.mod.nolimit.keeps fun b o e => (e0.bs b o e).1
  have hkind : ∀ y ∈ ps.zip us, (defScope st).names.lookup y.1 = some .local ∨ ((defScope st).names.lookup y.1 = some .cell ∧ ((cellsFrom (s.heap.objs.size + 1) (defScope st).names []).lookup y.1).isSome = true) := fun y hy =>
    (S.par y.1 (List.of_mem_zip hy).1).imp id fun z => ⟨z, PySem.W.cellsFrom_some _ _ _ (.inl z)⟩
  have hbd : BindsTo s (PySem.W.fnOf x x (defArgs st) (defBody st) (defScope st) .none kV doc pm an cdv ct) ⟨us, []⟩ (ps.zip us) := .of_eq (hb kV doc pm an cdv ct us (by rw [← r.length]; exact hl))
  refine codeAny_call_function hr.depth (KX _ _ lk) rfl S.co S.gen rfl (PySem.W.codeRec_of KX hcd) (hbd _ _ _ _ ?_)
  refine wpAny_newFunctionEnv_cells S.kind hkind fun env he s1 z => ?_
  subst he
  refine ⟨lim.keeps z.toInCall.keep, codeAny_func ?_⟩
  obtain ⟨t, ht, hq⟩ := hbody f cdv A outer s H vs Q p hot (hr.deeper _) hsp
  have I := L2H.inv_startH (CX := CX0) (E := fun _ _ _ => False) S hpin e0 hl r z
  refine wpAny_mono (ht.run [] s1 (start N vs) H _ I hq) (fun fl s' hs => ?_) fun e s' hs => hs
  cases fl with
  | ret u =>
    obtain ⟨v, σ', H', J, rv, q⟩ := hs
    exact ⟨v, H', J.os, J.bare, J.base, J.hok, rv, q⟩
  | next =>
    obtain ⟨σ', H', J, q⟩ := hs
    exact ⟨.non, H', J.os, J.bare, J.base, J.hok, rfl, q⟩
  | brk =>
    obtain ⟨_, _, _, q⟩ := hs
    exact q.elim
  | cont =>
    obtain ⟨_, _, _, q⟩ := hs
    exact q.elim
/-- x(e, ..) in the suite that holds the error p -/
theorem pe_ownX {X : Cx} {k : Nat} {sp : Addr × Obj → Sp} {x : Str} {e : Expr} {es : List Expr} {t : TA} {q pos : Pos} {p : Addr × Obj} (F : GivesX X.prog X.w X.K X.mg X.base k x sp) (hr : L2H.RoomH k X.A) (hot : Hot0 X.A p) (hp : p ∈ X.pn) (hg : Gl X x) (ha : PA X (e :: es) t) (hdb : (x == ("__debug__" : Str)) = false := by decide)
    (he : starEach (e :: es) X.env = (false, eval e X.env) :: starEach es X.env := by rfl) (hpl : (backTo pos (starEach es X.env)).any (·.1) = false := by rfl) :
    PE X (.Call (.Name x q) (e :: es) [] pos) (fun σ H Q => t σ H fun vs H1 => sp p vs H1 Q (fun _ _ _ => False)) := by
  obtain ⟨f, hm, hk, F⟩ := F
  refine ⟨fun pins s σ H Q I h => ?_⟩
  refine wpAny_Call_Name_kw (ld_glob I hg hm ?_ hdb)
  refine PySem.W.callWith_K (h₀ := X.base) I.ok.mod.kin hk (thn (ha.run pos pins s σ H _ I h) fun us s1 ⟨vs, H1, I1, r, z⟩ => ⟨I1.kIn, ?_⟩) he hpl
  have P1 := I1.pin p (List.mem_append_left _ hp)
  have hpin : L2H.PinOk X.stack H1 s1 p := ⟨P1.1, P1.2.1, fun hm => (List.mem_cons.mp (I1.stkSub p.1 hm)).elim P1.2.2.1 P1.2.2.2.1, P1.2.2.2.2⟩
  refine wpAny_call (codeAny_mono (F X.A X.stack s1 H1 us vs Q p hr hot hpin I1.env0 r z) fun y s' hq => ?_)
  match y, hq with
  | .error e, hq => exact hq.elim
  | .ok (.ret u), hq => exact I1.after hq
end Cb

end

section
set_option maxRecDepth 100000
set_option maxHeartbeats 4000000
namespace Cb
open PySem PySem.Spec PyProof.Rows L2
/-- the test of a clause: the classes it names -/
def Test (X : Cx) (te : Expr) (cs : List Value) : Prop :=
  ∀ (a : Addr) (oe : Obj) (pn pins : List (Addr × Obj)) (σ : L2.St) (H : Hp) (s : Shared) (b : Bool) (Q : Value → Shared → Prop) (E : Value → Shared → Prop), Inv (X.suite a ((a, oe) :: pn)) pins σ H s → s.heap.get? a = some oe → PySem.W.exmAny X.K oe.cls cs = some b →
    (∀ c h' tk, (∀ b o, s.heap.get? b = some o → h'.get? b = some o) → PySem.W.Looks (model X.prog X.w) h' (excMatches (.ref a) c) b → Q c { s with heap := h', toks := tk }) →
    wpAny (model X.prog X.w) (X.A.mark (some (.ref a))) (eval te X.env) Q E s
section
variable {X : Cx} {x x1 x2 x3 x4 : Str} {c c1 c2 c3 c4 : Value} {p p1 p2 p3 p4 tpos : Pos} {kk : Nat}
theorem ld_names {a : Addr} {oe : Obj} {pn pins : List (Addr × Obj)} {σ : L2.St} {H : Hp} {s : Shared} {Q : Value → Shared → Prop} {E : Value → Shared → Prop} (I : Inv (X.suite a ((a, oe) :: pn)) pins σ H s) (hc : Names X x c) (q : Q c s) :
    wpAny (model X.prog X.w) (X.A.mark (some (.ref a))) (eval (.Name x p) X.env) Q E s := by
  obtain ⟨hg, hdbg, hm | ⟨hm, hv, hnn⟩⟩ := hc
  · exact ld_glob (X := X.suite a ((a, oe) :: pn)) I hg hm q hdbg
  · exact ld_blt (X := X.suite a ((a, oe) :: pn)) I hg hm hv q hnn hdbg
theorem looks_cls {M : Model} {h : Heap} {a : Addr} {oe : Obj} (ha : h.get? a = some oe) : PySem.W.Looks M h (typeOf (.ref a)) oe.cls := fun A Q E s k q => wpAny_typeOf_ref (k _ _ ha) q
theorem test_one (hc : Names X x c) : Test X (.Name x p) [c] := by
  intro a oe pn pins σ H s b Q E I ha hx q
  refine ld_names I hc ?_
  obtain ⟨b1, d1, e1, e2, e3⟩ := PySem.W.exmAny_cons hx
  have e4 : some false = some d1 := e2
  cases e4
  rw [Bool.or_false] at e3
  subst e3
  exact q c s.heap s.toks (fun _ _ z => z) (PySem.W.exm_one I.kIn (looks_cls ha) e1)
theorem test_two (h1 : Names X x1 c1) (h2 : Names X x2 c2) : Test X (.Tuple [.Name x1 p1, .Name x2 p2] kk tpos) [c1, c2] := by
  intro a oe pn pins σ H s b Q E I ha hx q
  refine wpAny_Tuple (wpAny_items_cons (ld_names I h1 (wpAny_items_cons (ld_names I h2 (wpAny_items_nil ⟨by show 2 ≤ sizeLine; decide, ?_⟩)))))
  have kp : ∀ q o, s.heap.get? q = some o → (s.heap.push { cls := .type "tuple", data := .seq [c1, c2].toArray }).get? q = some o := fun _ _ z => Heap.get?_push_of_some _ z
  exact q _ _ _ kp (PySem.W.exm_tup2 (I.kIn.keeps kp) ((looks_cls ha).keeps kp) (Heap.get?_push_size s.heap rfl) hx)
theorem test_four (h1 : Names X x1 c1) (h2 : Names X x2 c2) (h3 : Names X x3 c3) (h4 : Names X x4 c4) : Test X (.Tuple [.Name x1 p1, .Name x2 p2, .Name x3 p3, .Name x4 p4] kk tpos) [c1, c2, c3, c4] := by
  intro a oe pn pins σ H s b Q E I ha hx q
  refine wpAny_Tuple (wpAny_items_cons (ld_names I h1 (wpAny_items_cons (ld_names I h2 (wpAny_items_cons (ld_names I h3 (wpAny_items_cons (ld_names I h4 (wpAny_items_nil ⟨by show 4 ≤ sizeLine; decide, ?_⟩)))))))))
  have kp : ∀ q o, s.heap.get? q = some o → (s.heap.push { cls := .type "tuple", data := .seq [c1, c2, c3, c4].toArray }).get? q = some o := fun _ _ z => Heap.get?_push_of_some _ z
  exact q _ _ _ kp (PySem.W.exm_tup4 (I.kIn.keeps kp) ((looks_cls ha).keeps kp) (Heap.get?_push_size s.heap rfl) hx)
end
/-- behind the suite the name is gone -/
abbrev dAs (i : Nat) (D : Ends) : Ends := { nx := fun σ' H' => D.nx (σ'.set i none) H', rt := D.rt, bk := fun σ' H' => D.bk (σ'.set i none) H', ct := fun σ' H' => D.ct (σ'.set i none) H' }
def wClauses (K : PySem.W.Frag) (n i : Nat) (Wout : WX) (D : Ends) : List (List Value × (Addr → Value → Option Addr → TS)) → WX
  | [] => Wout
  | (cs, ts) :: r => fun cls d σ H => ∃ b, PySem.W.exmAny K cls cs = some b ∧ (b = true → ∀ a, H a = none → σ.length = n → ts a cls d (dAs i D) (σ.set i (some (.ref a))) H) ∧ (b = false → wClauses K n i Wout D r cls d σ H)
inductive Clauses (X : Cx) (n : Str) : List ExceptHandler → List (List Value × (Addr → Value → Option Addr → TS)) → Prop
  | nil : Clauses X n [] []
  | cons {te : Expr} {cs : List Value} {ts : Addr → Value → Option Addr → TS} {b₀ : Stmt} {suite : List Stmt} {pos' : Pos} {hds : List ExceptHandler} {l : List (List Value × (Addr → Value → Option Addr → TS))} (hc : Test X te cs)
      (hsu : ∀ (a : Addr) (oe : Obj) (cls : Value) (d : Option Addr) (pn : List (Addr × Obj)), Zc cls d oe → (∃ vs, oe.data = .fields vs) → PSs (X.suite a ((a, oe) :: pn)) (b₀ :: suite) (ts a cls d)) (r : Clauses X n hds l) :
      Clauses X n (.ExceptHandler (some te) (some n) (b₀ :: suite) pos' :: hds) ((cs, ts) :: l)
theorem flying_keep {B : Heap} {l : List Env} {a : Addr} {Z : Obj → Prop} {h h' : Heap} (fl : HandSPX.FlyingZ B l a Z h) (k : ∀ b o, h.get? b = some o → h'.get? b = some o) : HandSPX.FlyingZ B l a Z h' := by
  obtain ⟨k1, k2, k3, oe, vs, T, oT, ts, he, hz, hd, h1, hnT, hTe, hT, hdT, h3⟩ := fl
  exact ⟨fun b o e => k b o (k1 b o e), k2, k3.of_keeps fun b o e _ => ⟨o, k b o e, rfl⟩, oe, vs, T, oT, ts, k _ _ he, hz, hd, h1, hnT, hTe, k _ _ hT, hdT, h3⟩
theorem up_keep {h h' : Heap} (k : ∀ b o, h.get? b = some o → h'.get? b = some o) : h.UpToSlots h' := fun b o e _ => ⟨o.slots, k b o e⟩
section
variable {X : Cx} {n : Str} {i : Nat} {body : List Stmt} {h₀ : ExceptHandler} {hds : List ExceptHandler} {l : List (List Value × (Addr → Value → Option Addr → TS))} {pos : Pos} {tb : WX → TS} {Wout : WX}
theorem ps_clauses (hs : X.stack = X.env :: X.outer) (hf : X.env.frame = some X.env.locals) (hN : X.N.Nodup) (hi : X.N[i]? = some n) (hln : X.env.kindOf n = some .local) (tk : Takes X Wout)
    (hb : ∀ (W : WX) (pn : List (Addr × Obj)) (xe : Value → Shared → Prop), Takes (X.tr pn xe) W → PassesOwn (model X.prog X.w) X.A X.env xe → PSs (X.tr pn xe) body (tb W))
    (hh : Clauses X n (h₀ :: hds) l) : PS X (.Try body (h₀ :: hds) [] [] pos) (fun D σ H => tb (wClauses X.K X.N.length i Wout D l) D σ H) := by
  refine ⟨fun pins s σ H D I h => ?_⟩
  have ok := I.ok
  have hfr : X.A.frames = some (X.env :: X.outer) := by rw [ok.frames, hs]
  have hloc : Loc X.env.scope n := .inl hln
  refine wpAny_Try_except ?_
  refine wpAny_mono ((hb (wClauses X.K X.N.length i Wout D l) (X.pn ++ pins) (fun e s₁ => wpAny (model X.prog X.w) X.A (noteFrame e X.env) (fun _ s₂ => wpAny (model X.prog X.w) X.A (setFlight e none) (fun _ s₃ =>
    wpAny (model X.prog X.w) X.A (handleBy e X.env (h₀ :: hds)) (SP X pins D) X.xe s₃) X.xe s₂) X.xe s₁) (fun u s' xx => ?_) PassesOwn.looking).run [] s σ H D (I.toTry _) h) (fun f s1 hsp => ?_) (fun e s1 he => he)
  · obtain ⟨a, B, sI, pins', σ', H', cls, d, rfl, J', nb, up, sky, na, os, ag, w⟩ := xx
    have J : Inv X pins σ' H' sI := J'.ofTry ok
    have sky' : Sky B (X.env :: X.outer) a (Zc cls d) X.env.locals s'.heap := by rw [← hs]; exact sky
    show wpAny (model X.prog X.w) X.A (noteFrame (.ref a) X.env) _ _ _
    have notFr : ∀ {h : Heap} {o : Obj} {vs : Array Value}, h.FunFrames B (X.env :: X.outer) → h.get? a = some o → o.data = .fields vs → a ∉ frs (X.env :: X.outer) := fun {h o vs} ff e dd hm => by
      obtain ⟨_, o', e', hnf⟩ := ff.mem hm
      rw [e] at e'
      cases e'
      exact hnf _ dd
    -- the clauses, one after the other, whatever the tests have laid beside
    have go : ∀ {hds' : List ExceptHandler} {l' : List (List Value × (Addr → Value → Option Addr → TS))}, Clauses X n hds' l' → ∀ (h : Heap) (tk0 : Nat), HandSPX.FlyingZ B (X.env :: X.outer) a (Zc cls d) h → sI.heap.UpToSlots h → wClauses X.K X.N.length i Wout D l' cls d σ' H' →
        wpAny (model X.prog X.w) X.A (handleBy (.ref a) X.env hds') (SP X pins D) X.xe { s' with heap := h, toks := tk0 } := by
      intro hds' l' hk
      induction hk with
      | nil =>
        intro h tk0 fl up3 w
        refine wpAny_handleBy_nil ?_
        obtain ⟨k1, k2, k3, oe, vs, T, oT, ts', he, hz, hd, h1, hr⟩ := id fl
        unfold PySem.passOn
        refine wpAny_bind (wpAny_field he hd h1 ?_)
        rw [if_neg (show ¬ ((Value.ref T == Value.none) = true) from by simp)]
        have fin : wpAny (model X.prog X.w) X.A (setFlight (.ref a) X.env.frame) (fun _ s4 => wpAny (model X.prog X.w) X.A (throw (.ref a) : Sem Flow) (SP X pins D) X.xe s4) X.xe { s' with heap := h, toks := tk0 } := by
          rw [hf]
          refine HandSPX.setFlight_upZ (s := { s' with heap := h, toks := tk0 }) fl fun h4 hh4 up4 => wpAny_throw (tk _ _ ?_)
          exact ⟨a, B, sI, pins, σ', H', cls, d, rfl, J, nb, up3.trans up4, .inr (.inr (by rw [hs]; exact hh4)), na, os, ag, w⟩
        first
          | exact wpAny_bind (wpAny_pure (wpAny_bind fin))
          | exact wpAny_bind fin
      | @cons te cs ts b₀ suite pos' hds2 l2 hc hsu r ih =>
        intro h tk0 fl up3 w
        obtain ⟨b, hb1, hyes, hno⟩ := w
        obtain ⟨oe3, vs3, he3, hz3, hd3⟩ := fl.there
        have nfr := notFr fl.2.2.1 he3 hd3
        have nL : a ≠ X.env.locals := fun z => nfr (List.mem_filterMap.mpr ⟨X.env, List.mem_cons_self, by rw [hf, z]⟩)
        have nF : a ∉ X.fs := fun hm => by
          obtain ⟨e, he, q⟩ := List.mem_filterMap.mp hm
          exact nfr (List.mem_filterMap.mpr ⟨e, List.mem_cons_of_mem _ he, q⟩)
        have J3 : Inv X pins σ' H' { s' with heap := h, toks := tk0 } := J.landed (s' := { s' with heap := h, toks := tk0 }) nb fl.1 up3 os ag
        have S3 := J3.suite he3 hd3 na nL nF
        refine wpAny_handleBy_cons (codeAny_handlers_test ?_) (by intro q; cases q)
        refine hc a oe3 (X.pn ++ pins) [] σ' H' _ b _ _ S3 he3 (by rw [hz3.1]; exact hb1) fun c h4 tk4 k4 LM => ?_
        refine LM.here ?_
        have fl4 := flying_keep fl k4
        have up4 : sI.heap.UpToSlots h4 := up3.trans (up_keep k4)
        cases b with
        | true =>
          refine codeAny_handlers_suite_as ?_
          refine HandSPX.lands_againZ (s := { s' with heap := h4, toks := tk4 }) fl4 fun h5 fl5 up5 => ?_
          have J5 : Inv X pins σ' H' { s' with heap := h5, toks := tk4 } := J.landed (s' := { s' with heap := h5, toks := tk4 }) nb fl5.1 (up4.trans up5) os ag
          obtain ⟨oe5, vs5, he5, hz5, hd5⟩ := fl5.there
          have S5 := J5.suite he5 hd5 na nL nF
          refine store_ok (X := X.suite a ((a, oe5) :: (X.pn ++ pins))) (v := .ref a) S5 hN hi hloc rfl (fun s6 S6 => ?_) (.inr hln)
          refine wpAny_mono ((hsu a oe5 cls d (X.pn ++ pins) hz5 ⟨_, hd5⟩).run [] s6 _ H' _ S6 (hyes rfl a na J.len)) (fun f s7 hsp => ?_) (fun _ _ z => False.elim z)
          have end_ : ∀ {σ6 : L2.St} {H6 : Hp} {Q : Shared → Prop}, Inv (X.suite a ((a, oe5) :: (X.pn ++ pins))) [] σ6 H6 s7 → (∀ s8, Inv X pins (σ6.set i none) H6 s8 → Q s8) →
              wpAny (model X.prog X.w) X.A (do bindName X.env n .none; unbindBehindTheSuite X.env n pos') (fun _ s8 => Q s8) X.xe s7 := fun {σ6 H6 Q} S7 hq => gone_ok (S7.unsuite ok) hN hi hln hq
          cases f with
          | next =>
            obtain ⟨σ6, H6, S7, q6⟩ := hsp
            exact end_ S7 fun s8 J8 => ⟨_, _, J8, q6⟩
          | brk =>
            obtain ⟨σ6, H6, S7, q6⟩ := hsp
            exact end_ S7 fun s8 J8 => ⟨_, _, J8, q6⟩
          | cont =>
            obtain ⟨σ6, H6, S7, q6⟩ := hsp
            exact end_ S7 fun s8 J8 => ⟨_, _, J8, q6⟩
          | ret u =>
            obtain ⟨v6, σ6, H6, S7, r6, q6⟩ := hsp
            exact end_ S7 fun s8 J8 => ⟨_, _, _, J8, r6, q6⟩
        | false =>
          show wpAny _ X.A (handleBy (.ref a) X.env hds2) _ _ _
          exact ih h4 tk4 fl4 up4 (hno rfl)
    exact Sky.land Zc.steady hfr hf sky' fun h3 fl3 up3 => go hh h3 s'.toks fl3 (up.trans up3) w
  · cases f with
    | next =>
      obtain ⟨σ', H', J', q⟩ := hsp
      exact wpAny_execs_nil ⟨σ', H', J'.ofTry ok, q⟩
    | brk =>
      obtain ⟨σ', H', J', q⟩ := hsp
      exact ⟨σ', H', J'.ofTry ok, q⟩
    | cont =>
      obtain ⟨σ', H', J', q⟩ := hsp
      exact ⟨σ', H', J'.ofTry ok, q⟩
    | ret u =>
      obtain ⟨v, σ', H', J', r, q⟩ := hsp
      exact ⟨v, σ', H', J'.ofTry ok, r, q⟩
end
end Cb

end

section
set_option maxRecDepth 100000
set_option maxHeartbeats 4000000
namespace Cb
open PySem PySem.Spec PyProof.Rows L2 LamX
/-- all but c and the tables stays -/
def Keep (c : Addr) (H H' : Hp) : Prop := ∀ b o, b ≠ c → (∀ ps, o ≠ .tbl ps) → H b = some o → H' b = some o
theorem Keep.refl (c : Addr) (H : Hp) : Keep c H H := fun _ _ _ _ h => h
theorem Keep.trans {c : Addr} {H H1 H2 : Hp} (a : Keep c H H1) (b : Keep c H1 H2) : Keep c H H2 := fun x o n t h => b x o n t (a x o n t h)
theorem Keep.of {c : Addr} {H H' : Hp} (s : SameBut c H H') : Keep c H H' := fun b o n _ h => s b o n h
theorem kp_new {c p : Addr} {H H1 : Hp} {u : HO} (n : H1 p = none) (h : Keep c H H1) : Keep c H (upd H1 p u) := h.trans (.of (.of (same_upd n)))
theorem kp_same {c : Addr} {H H1 H2 : Hp} (s : L2.Same H1 H2) (h : Keep c H H1) : Keep c H H2 := h.trans (.of (.of s))
theorem kp_but {c : Addr} {H H1 H2 : Hp} (s : SameBut c H1 H2) (h : Keep c H H1) : Keep c H H2 := h.trans (.of s)
theorem kp_ext {c : Addr} {H H1 H2 : Hp} (s : ExtN H1 H2) (h : Keep c H H1) : Keep c H H2 := h.trans fun b o _ t e => s b o e t
/-! carried over a growing table -/
theorem ext_lst {H H' : Hp} {a : Addr} {xs : List V} (s : ExtN H H') (h : H a = some (.lst xs)) : H' a = some (.lst xs) := s _ _ h (fun _ z => nomatch z)
theorem ext_tup {H H' : Hp} {a : Addr} {xs : List V} (s : ExtN H H') (h : H a = some (.tup xs)) : H' a = some (.tup xs) := s _ _ h (fun _ z => nomatch z)
theorem PoolAt.ext {H H' : Hp} {c : Addr} (s : ExtN H H') (h : PoolAt H c) : PoolAt H' c := by
  obtain ⟨x, d, k, e, r⟩ := h
  exact ⟨x, d, k, ext_lst s e, r⟩
/-- a table and what it tells, over a pool that is drawn from -/
theorem Tabs.but {T : List (Addr × Str)} {H H' : Hp} {c : Addr} (hc : PoolAt H c) (s : SameBut c H H') (t : Tabs T H) : Tabs T H' := by
  have at_ : ∀ b o, H b = some o → (∀ xs, o ≠ .lst xs) → H' b = some o := fun b o e n => s b o (fun z => by
    obtain ⟨x, d, k, e2, _⟩ := hc
    rw [z, e2] at e
    exact n _ (Option.some.inj e).symm) e
  intro p hp
  obtain ⟨ps, h1, h2, h3⟩ := t p hp
  refine ⟨ps, at_ _ _ h1 (fun _ z => nomatch z), h2, fun pos cv e => ?_⟩
  obtain ⟨c', e1, e2⟩ := h3 pos cv e
  exact ⟨c', e1, at_ _ _ e2 (fun _ z => by unfold CodeO at z; cases z)⟩
theorem Tabs.new {T : List (Addr × Str)} {H : Hp} {p : Addr} {u : HO} (n : H p = none) (t : Tabs T H) : Tabs T (upd H p u) := t.ext (same_upd n)
theorem Tabs.same {T : List (Addr × Str)} {H H' : Hp} (s : L2.Same H H') (t : Tabs T H) : Tabs T H' := t.ext s
/-- the heap in which the script and the tables alone are tracked -/
def tabHp (own : Bool) (a : Addr) (vs : List Value) (ns : List Int) (ts : List Addr) : Hp := fun b => if own = false ∧ b = a then some (.frz { cls := .type "list", data := .seq vs.toArray } (.lst (ns.map V.int))) else if b ∈ ts then some (.tbl #[]) else none
theorem tabHp_some {own : Bool} {a b : Addr} {vs : List Value} {ns : List Int} {ts : List Addr} {u : HO} (h : tabHp own a vs ns ts b = some u) : (own = false ∧ b = a ∧ u = .frz { cls := .type "list", data := .seq vs.toArray } (.lst (ns.map V.int))) ∨ (b ∈ ts ∧ u = .tbl #[]) := by
  unfold tabHp at h
  split at h
  · rename_i c
    exact .inl ⟨c.1, c.2, (Option.some.inj h).symm⟩
  · split at h
    · rename_i c
      exact .inr ⟨c, (Option.some.inj h).symm⟩
    · cases h
section
variable {P : Program} {w : World} {K : PySem.W.Frag} {mg mb : Str → Option Value} {CX : CXT} {k : Nat} {fa a : Addr} {cs : List (Addr × Addr)} {sp : Sp} {s₁ : Shared} {vs : List Value} {ns : List Int}
theorem law_callGT (KX : K.In s₁.heap) (hns : s₁.heap.Ns mainGlobals mg) (hb : s₁.heap.Ns builtinsNs mb) (hbb : ∀ x : Str, x ≠ "__name__" → mb x = bootBuiltins x) (hlim : s₁.heap.NoLimit) (hg : s₁.gens = #[])
    (hT : ∀ p ∈ cs, s₁.heap.get? p.2 = some { cls := .none, data := .fields #[] }) (nT : ∀ p ∈ cs, K.lookup p.2 = none) (C : ∀ p ∈ cs, PySem.W.CodeHd s₁.heap p.1 p.2)
    (hbm : ∃ (bm : Addr) (ob : Obj), mg "__builtins__" = some (.ref bm) ∧ bm ≠ builtinsNs ∧ s₁.heap.get? bm = some ob ∧ ob.cls = .type "module" ∧ ob.dict = some builtinsNs ∧ ob.data = .plain)
    (ha : s₁.heap.get? a = some { cls := .type "list", data := .seq vs.toArray }) (hi : IntsAre vs ns) (hl : ns.length ≤ sizeLine) (hr : Room k callerA)
    (F : ∀ base : Heap, K.In base → base.Ns mainGlobals mg → (∀ p ∈ cs, TabB base mg p.1 p.2) → FnG P w K mg base CX k fa sp)
    (hsp : ∀ H : Hp, (∀ p ∈ cs, H p.2 = some (.tbl #[])) → SqL K H a (ns.map V.int) → sp [.ref a] H (fun v _ => v = .bl true) fun _ _ _ => False)
    (hCX : ∀ H e s', CX [] H s₁ (fun _ _ _ => False) e s' → False) :
    codeAny (model P w) callerA (.call (.ref fa) ⟨[.ref a], []⟩) (fun r s' => r = .ok (.ret (.bool true)) ∧ OldK s₁.heap s'.heap ∧ s'.os = s₁.os ∧ AllBare s'.gens) s₁ := by
  have lenV := hi.length
  have isT : ∀ b : Addr, b ∈ cs.map (·.2) → s₁.heap.get? b = some { cls := .none, data := .fields #[] } := fun b hb => by
    obtain ⟨p, hp, e⟩ := List.mem_map.mp hb
    rw [← e]
    exact hT p hp
  have aT : a ∉ cs.map (·.2) := fun z => by
    have q := isT a z
    rw [ha] at q
    cases q
  have memT : ∀ p ∈ cs, p.2 ∈ cs.map (·.2) := fun p hp => List.mem_map.mpr ⟨p, hp, rfl⟩
  obtain ⟨own, hown⟩ : ∃ own : Bool, (own = true → ∃ o, K.lookup a = some o) ∧ (own = false → K.lookup a = none) := by
    cases hk : K.lookup a with
    | some o => exact ⟨true, fun _ => ⟨o, rfl⟩, fun z => by cases z⟩
    | none => exact ⟨false, (fun z => by cases z), fun _ => rfl⟩
  generalize eH : tabHp own a vs ns (cs.map (·.2)) = H
  have hH : ∀ b u, H b = some u → (own = false ∧ b = a ∧ u = .frz { cls := .type "list", data := .seq vs.toArray } (.lst (ns.map V.int))) ∨ (b ∈ cs.map (·.2) ∧ u = .tbl #[]) := fun b u z => tabHp_some (by rw [eH]; exact z)
  have hHT : ∀ p ∈ cs, H p.2 = some (.tbl #[]) := fun p hp => by
    rw [← eH]
    unfold tabHp
    rw [if_neg (fun z => aT (by rw [← z.2]; exact memT p hp)), if_pos (memT p hp)]
  have hS : SqL K H a (ns.map V.int) := by
    cases own with
    | false => exact .inl (.inr ⟨_, by rw [← eH]; exact if_pos ⟨rfl, rfl⟩⟩)
    | true =>
      obtain ⟨o, ho⟩ := hown.1 rfl
      have e := KX a o ho
      rw [ha] at e
      cases e
      exact .inr ⟨_, vs.toArray, _, ho, rfl, rfl, rfl, by rw [List.size_toArray, lenV]; exact hl, by simpa using vals_ints hi⟩
  have hok : HOk P w H s₁.heap := fun b u z => by
    rcases hH b u z with ⟨_, rfl, rfl⟩ | ⟨z1, rfl⟩
    · exact ⟨ha, by rw [List.length_map]; exact hl, vs, _, vals_ints hi, ha⟩
    · exact isT b z1
  have none_of : ∀ {b : Addr} {o : Obj}, s₁.heap.get? b = some o → (∀ us n, o.data ≠ .seq us n) → o.data ≠ .fields #[] → H b = none := fun {b o} e h1 h2 => by
    cases q : H b with
    | none => rfl
    | some u =>
      rcases hH b u q with ⟨_, rfl, _⟩ | ⟨z1, _⟩
      · rw [ha] at e
        cases e
        exact (h1 _ _ rfl).elim
      · rw [isT b z1] at e
        cases e
        exact (h2 rfl).elim
  have nsK : ∀ {b : Addr} {m : Str → Option Value}, s₁.heap.Ns b m → (hidT s₁.heap H).Ns b m := fun {b m} ⟨o, es, ep, e, d, r⟩ => ⟨o, es, ep, hidT_get e (none_of e (fun us n z => by rw [d] at z; cases z) (fun z => by rw [d] at z; cases z)), d, r⟩
  have hKb : K.In (hidT s₁.heap H) := fun b o e => hidT_get (KX b o e) (by
    cases q : H b with
    | none => rfl
    | some u =>
      rcases hH b u q with ⟨z1, z2, _⟩ | ⟨z1, _⟩
      · rw [z2, hown.2 z1] at e
        cases e
      · obtain ⟨p, hp, ep⟩ := List.mem_map.mp z1
        rw [← ep, nT p hp] at e
        cases e)
  have hM : L2.Mod K mg (hidT s₁.heap H) := ⟨hKb, nsK hns, ⟨mb, nsK hb, hbb⟩, by
    obtain ⟨mc, h1, h2⟩ := hlim
    exact ⟨mc, nsK h1, h2⟩⟩
  have TB : ∀ p ∈ cs, TabB (hidT s₁.heap H) mg p.1 p.2 := fun p hp => by
    have hTp := hT p hp
    refine ⟨?_, ?_, fun z => ?_⟩
    · obtain ⟨o, us, file, tf, flags, tg, inF, text, tt, e1, r1, r2, r3, r4, r5, r6, r7, r8, hne⟩ := C p hp
      exact ⟨o, us, file, tf, flags, tg, inF, text, tt, hidT_get e1 (none_of e1 (fun vs n z => by rw [r2] at z; cases z) (fun z => by rw [r2] at z; cases z; simp at r3)), r1, r2, r3, r4, r5, r6, r7, r8, hne⟩
    · obtain ⟨bm, ob, b1, b2, b3, b4, b5, b6⟩ := hbm
      have nG : bm ≠ mainGlobals := fun q => by
        obtain ⟨o, es, ep, e, hd, _⟩ := hns
        rw [q, e] at b3
        cases b3
        rw [hd] at b6
        cases b6
      have nP : bm ≠ p.2 := fun q => by
        rw [q, hTp] at b3
        cases b3
        cases b6
      exact ⟨bm, ob, b1, b2, nG, nP, hidT_get b3 (none_of b3 (fun vs n z => by rw [b6] at z; cases z) (fun z => by rw [b6] at z; cases z)), b4, b5, b6⟩
    · obtain ⟨o, es, ep, e, hd, _⟩ := hns
      rw [z, hTp] at e
      cases e
      cases hd
  have e0 : Env0 P w K mg (hidT s₁.heap H) callerA [] s₁ H := ⟨rfl, hM, fun b o e => of_hidT e, Nat.le_of_eq (hidT_size _ _), trivial, fun b hb => absurd (show b ∈ ([] : List Addr) from hb) (by simp), hok, .of_eq hg⟩
  refine codeAny_mono (F _ hKb (nsK hns) TB callerA [] s₁ H [.ref a] [.ref a] _ _ rfl hr e0 (.cons rfl .nil) (hsp H hHT hS)) fun r s' h => ?_
  match r, h with
  | .error e, h => exact (hCX H e s' h).elim
  | .ok (.ret u), h =>
    obtain ⟨v, H', os, bare, un, hok', r', q⟩ := h
    have q' : v = .bl true := q
    subst q'
    obtain rfl : u = Value.bool true := r'
    have key : ∀ b o, b ∉ cs.map (·.2) → s₁.heap.get? b = some o → s'.heap.get? b = some o := fun b o nb e => by
      cases q : H b with
      | none => exact un.keep b o e q (by intro z; exact absurd (show b ∈ ([] : List Addr) from z) (by simp)) (by simp)
      | some u =>
        rcases hH b u q with ⟨_, z2, z3⟩ | ⟨z1, _⟩
        · subst z3
          have z4 := hok' b _ (un.frzs b _ _ q)
          subst z2
          rw [ha] at e
          cases e
          exact z4.1
        · exact absurd z1 nb
    have grown : ∀ p ∈ cs, ∃ more : Array Value, s'.heap.get? p.2 = some { cls := .none, data := .fields more } := fun p hp => by
      obtain ⟨more, z⟩ := un.tbls p.2 #[] (hHT p hp)
      exact ⟨_, hok' p.2 _ z⟩
    refine ⟨rfl, ⟨fun b o e => ?_, fun b o e => ?_⟩, os, bare⟩
    · by_cases hb : b ∈ cs.map (·.2)
      · obtain ⟨p, hp, ep⟩ := List.mem_map.mp hb
        obtain ⟨more, hm⟩ := grown p hp
        rw [← ep] at e ⊢
        rw [hT p hp] at e
        cases e
        exact .inr (.inl ⟨((C p hp).tab (hT p hp)).isCodeTable, rfl, #[], more, rfl, by rw [Array.empty_append]; exact hm⟩)
      · exact .inl (key b o hb e)
    · by_cases hb : b ∈ cs.map (·.2)
      · obtain ⟨p, hp, ep⟩ := List.mem_map.mp hb
        obtain ⟨more, hm⟩ := grown p hp
        rw [← ep]
        exact ⟨_, hm⟩
      · exact ⟨o, key b o hb e⟩
end
/-- what is known of the law's promise at the head's heap h -/
def LawGT (l : PySem.W.OpenLaw) (w : World) (K : PySem.W.Frag) (CX : CXT) (k n : Nat) (mg : Str → Option Value) (fa : Addr) (h : Heap) : Prop :=
  ∃ (cs : List (Addr × Addr)) (sp : Sp), (∀ p ∈ cs, h.get? p.2 = some { cls := .none, data := .fields #[] }) ∧ (∀ p ∈ cs, K.lookup p.2 = none) ∧ (∀ p ∈ cs, PySem.W.CodeHd h p.1 p.2) ∧
    (∀ (H : Hp) (a : Addr) (ns : List Int), ns.length ≤ n → (∀ z ∈ ns, Builtin.Int.intBits z ≤ 1048576) → (∀ p ∈ cs, H p.2 = some (.tbl #[])) → SqL K H a (ns.map V.int) → sp [.ref a] H (fun v _ => v = .bl true) fun _ _ _ => False) ∧
    ∀ base : Heap, K.In base → base.Ns mainGlobals mg → (∀ p ∈ cs, TabB base mg p.1 p.2) → FnG l.prog w K mg base CX k fa sp
theorem walk_ofGT {l : PySem.W.OpenLaw} {n k : Nat} {q : Program} {loose : List Str} {XP : (Str → Option Value) → Heap → Prop} {YP : World → Heap → Prop} {d : DefRec} {K : Params → PySem.W.Frag} {CX : World → CXT}
    (hn : l.most = some n) (hn2 : n ≤ sizeLine) (hdf : d.params.defaults = []) (hr : Room k callerA) (hY : ∀ (w : World) (h : Heap), YP w h → (K w.params).In h)
    (F : ∀ (w : World) (mg : Str → Option Value) (fa : Addr) (h : Heap), YP w h → (K w.params).In h → h.Ns mainGlobals mg → mg d.name = some (.ref fa) → LawGT l w (K w.params) (CX w) k n mg fa h)
    (hCX : ∀ (w : World) (H : Hp) (s : Shared) (e : Value) (s' : Shared), CX w [] H s (fun _ _ _ => False) e s' → False) :
    PySem.W.WalkO q loose XP YP l.row.toRowW d [] (fun f vs => PySem.call f vs) := by
  refine Att.attach_callB hn hdf fun w s₀ s₁ mg mb fa o pm cd doc a vs ns G Y ho hd hcd hmg hobj hints hlen hbits hg => ?_
  have KX := hY w _ Y
  obtain ⟨cs, sp, hT, nT, C, hsp, hF⟩ := F w mg fa _ Y KX G.T.g hmg
  exact law_callGT KX G.T.g G.T.b G.T.builtins G.T.nolimit hg hT nT C G.T.bmain hobj hints (Nat.le_trans hlen hn2) hr hF (fun H hH hS => hsp H a ns hlen hbits hH hS) fun H e s' => hCX w H s₁ e s'
end Cb

end

section
set_option maxRecDepth 100000
set_option maxHeartbeats 4000000
namespace Cb
open PySem PySem.Spec PyProof.Rows L2
def isT : Value → Bool
  | .bool b => b
  | _ => false
def rCntB (K : PySem.W.Frag) : V → List V → Hp → VK → Prop := fun x xs H Q => ∃ (p : Addr) (bs : List Bool), x = .ref p ∧ xs = [.bl true] ∧ SqL K H p (bs.map V.bl) ∧ Q (.int (bs.count true : Nat)) H
theorem bools_of_vals : ∀ {bs : List Bool} {us : List Value}, Vals (bs.map V.bl) us → us = bs.map Value.bool
  | [], _, r => by
    cases r
    rfl
  | b :: bs, _, r => by
    cases r with
    | cons h t =>
      cases h
      rw [bools_of_vals t]
      rfl
theorem isT_count (bs : List Bool) : (bs.map Value.bool).countP isT = bs.count true := by
  induction bs with
  | nil => rfl
  | cons b bs ih =>
    rw [List.map_cons, List.countP_cons, List.count_cons, ih]
    cases b <;> rfl
theorem mt_countB {X : Cx} : MtR X "list.count" (rCntB X.K) := by
  intro pins s σ H x xs v us Q I rx rxs h
  obtain ⟨p, bs, rfl, rfl, hs, q⟩ := h
  cases rx
  obtain ⟨u, rfl, ru⟩ := rxs.one
  cases ru
  obtain ⟨its, rv, ⟨⟨cls, dd, data, sl⟩, n, ho, hc, hdn, hd⟩, hlen⟩ := I.list hs
  simp only at hc hd
  subst hc hd
  have hi := bools_of_vals rv
  subst hi
  refine call_meets PySem.F.slot_list_count ⟨_, ho, rfl⟩ PySem.F.entry_list_count (PySem.F.args_list_count_2 _ _)
    (SeqAt.list_countAt p (bs.map Value.bool).toArray n dd sl (.bool true) isT) ⟨ho, fun y hy => ?_, ?_⟩
  · have hy2 : y ∈ bs.map Value.bool := by simpa using hy
    obtain ⟨b, _, rfl⟩ := List.mem_map.mp hy2
    cases b
    · exact eqAt_V (y := .bl false) (x := .bl true) rfl rfl rfl rfl
    · exact eqAt_V (y := .bl true) (x := .bl true) rfl rfl rfl rfl
  have ec : (bs.map Value.bool).toArray.toList.countP isT = bs.count true := isT_count bs
  refine ⟨.int (bs.count true : Nat), H, I.tok _, ⟨s.toks, ?_⟩, q⟩
  show Value.int (((bs.map Value.bool).toArray.toList.countP isT : Nat) : Int) s.toks = Value.int ((bs.count true : Nat) : Int) s.toks
  rw [ec]
/-! ### defs that may raise -/
theorem givesE_fun {P : Program} {w : World} {K : PySem.W.Frag} {mg : Str → Option Value} {base : Heap} {k : Nat} {x : Str} {st : Stmt} {N ps : List Str} {sp : Sp} (T : Stands K mg x st) (S : FnScope N ps (defScope st))
    (hb : ∀ (kV doc pm : Value) (an : Option Addr) (cdv ct : Value) (us : List Value), us.length = ps.length → bindArgs (PySem.W.fnOf x x (defArgs st) (defBody st) (defScope st) .none kV doc pm an cdv ct) ⟨us, []⟩ = pure (ps.zip us))
    (len : ∀ vs H Q E, sp vs H Q E → vs.length = ps.length)
    (hbody : ∀ (f : Addr) (cdv : Value) (A : Around) (outer : List Env) (s : Shared) (H : Hp) (vs : List V) (Q : VK) (E : XK), Room k (A.deeper (envOfC x (defScope st) s.heap.objs.size f cdv)) → sp vs H Q E →
      ∃ t, PSs (cxOf (L2.CX P w) P w K mg base N x (defScope st) f cdv A outer s H E) (defBody st) t ∧ t { nx := fun _ H' => Q .non H', rt := Q } (start N vs) H) :
    Gives P w K mg base (L2.CX P w) (k + 1) x sp := by
  obtain ⟨f, fd, hm, F⟩ := T
  exact gives_of hm F.kp (F.okX S len (hbody f)) (F.binds hb)
theorem givesEK_fun {P : Program} {w : World} {K : PySem.W.Frag} {mg : Str → Option Value} {base : Heap} {k : Nat} {x : Str} {st : Stmt} {N ps ks : List Str} {sp : Sp} (T : Stands K mg x st) (S : FnScope N ps (defScope st))
    (hb : ∀ (kV doc pm : Value) (an : Option Addr) (cdv ct : Value) (us ws : List Value), ws.length = ks.length → us.length + ws.length = ps.length → bindArgs (PySem.W.fnOf x x (defArgs st) (defBody st) (defScope st) .none kV doc pm an cdv ct) ⟨us, ks.zip ws⟩ = pure (ps.zip (us ++ ws)))
    (len : ∀ vs H Q E, sp vs H Q E → vs.length = ps.length)
    (hbody : ∀ (f : Addr) (cdv : Value) (A : Around) (outer : List Env) (s : Shared) (H : Hp) (vs : List V) (Q : VK) (E : XK), Room k (A.deeper (envOfC x (defScope st) s.heap.objs.size f cdv)) → sp vs H Q E →
      ∃ t, PSs (cxOf (L2.CX P w) P w K mg base N x (defScope st) f cdv A outer s H E) (defBody st) t ∧ t { nx := fun _ H' => Q .non H', rt := Q } (start N vs) H) :
    GivesK P w K mg base (L2.CX P w) (k + 1) x ks sp := by
  obtain ⟨f, fd, hm, F⟩ := T
  refine givesK_of hm F.kp (F.okX S len (hbody f)) ?_
  obtain ⟨oc, od, kV, doc, pm, an, cdv, ct, osl, rfl, lk, hcd⟩ := F.ex
  exact hb kV doc pm an cdv ct
theorem givesE_star {P : Program} {w : World} {K : PySem.W.Frag} {mg : Str → Option Value} {base : Heap} {k : Nat} {x pv : Str} {st : Stmt} {N ps : List Str} {sp : Sp} (T : Stands K mg x st) (S : FnScope N (ps ++ [pv]) (defScope st))
    (hb : ∀ (kV doc pm : Value) (an : Option Addr) (cdv ct : Value) (us rest : List Value), us.length = ps.length → bindArgs (PySem.W.fnOf x x (defArgs st) (defBody st) (defScope st) .none kV doc pm an cdv ct) ⟨us ++ rest, []⟩ = (newTuple rest >>= fun t => pure (ps.zip us ++ [(pv, t)])))
    (hbody : ∀ (f : Addr) (cdv : Value) (A : Around) (outer : List Env) (s : Shared) (H : Hp) (vs : List V) (Q : VK) (E : XK), Room k (A.deeper (envOfC x (defScope st) s.heap.objs.size f cdv)) → sp vs H Q E →
      ∃ t, PSs (cxOf (L2.CX P w) P w K mg base N x (defScope st) f cdv A outer s H E) (defBody st) t ∧ t { nx := fun _ H' => Q .non H', rt := Q } (start N vs) H) :
    Gives P w K mg base (L2.CX P w) (k + 1) x (fun vs H Q E => ∃ ws rest, vs = ws ++ rest ∧ ws.length = ps.length ∧ rest.length ≤ sizeLine ∧ ∀ p, H p = Option.none → sp (ws ++ [V.ref p]) (upd H p (.tup rest)) Q E) := by
  obtain ⟨f, fd, hm, F⟩ := T
  obtain ⟨oc, od, kV, doc, pm, an, cdv, ct, osl, rfl, lk, hcd⟩ := F.ex
  exact ⟨f, hm, F.kp, StX.fn_star lk hcd S StX.cxUp (hb kV doc pm an cdv ct) fun A outer s H vs Q E hr hsp => hbody f cdv A outer s H vs Q E hr hsp⟩
/-- what a callee may let out goes on to the def's own caller -/
theorem passX {X : Cx} {E : XK} {E₁ : Value → Shared → Prop} (hs : X.stack = X.env :: X.outer) (hf : X.env.frame = some X.env.locals) (hex : X.ex = [])
    (hx : X.xe = fun e s' => wpAny (model X.prog X.w) X.A (leaving X.env e) (fun _ s'' => L2.CX X.prog X.w X.outer X.H_0 X.s_0 E e s'') E₁ s') : Passes (L2.CX X.prog X.w) X E := passes_call (takes_of hs hf hex hx) (fun _ _ _ _ h => h)
/-! ### defs with lambdas -/
/-- a def whose code object stands at c -/
def StandsT (K : PySem.W.Frag) (mg : Str → Option Value) (x : Str) (st : Stmt) (c : Addr) : Prop :=
  ∃ (f : Addr) (oc : Value) (od : Option Addr) (kV doc pm : Value) (an : Option Addr) (ct : Value) (osl : Array (Option Value)), mg x = some (.ref f) ∧ K.lookup f = some ⟨oc, od, .func (PySem.W.fnOf x x (defArgs st) (defBody st) (defScope st) .none kV doc pm an (.ref c) ct), osl⟩ ∧ PySem.W.codeIn K (.ref c) x = true ∧ PySem.W.keepIn K (.ref f) = true
theorem givesT_fun {P : Program} {w : World} {K : PySem.W.Frag} {mg : Str → Option Value} {base : Heap} {k : Nat} {x : Str} {c : Addr} {st : Stmt} {N ps : List Str} {sp : Sp} (T : StandsT K mg x st c) (S : FnScope N ps (defScope st))
    (hb : ∀ (kV doc pm : Value) (an : Option Addr) (cdv ct : Value) (us : List Value), us.length = ps.length → bindArgs (PySem.W.fnOf x x (defArgs st) (defBody st) (defScope st) .none kV doc pm an cdv ct) ⟨us, []⟩ = pure (ps.zip us))
    (len : ∀ vs H Q E, sp vs H Q E → vs.length = ps.length)
    (hbody : ∀ (f : Addr) (A : Around) (outer : List Env) (s : Shared) (H : Hp) (vs : List V) (Q : VK) (E : XK), A.guards = some [] → Room k (A.deeper (envOfC x (defScope st) s.heap.objs.size f (.ref c))) → sp vs H Q E →
      ∃ t, PSs (cxOf CX0 P w K mg base N x (defScope st) f (.ref c) A outer s H E).nox (defBody st) t ∧ t { nx := fun _ H' => Q .non H', rt := Q } (start N vs) H) :
    GivesG P w K mg base CX0 (k + 1) x sp := by
  obtain ⟨f, oc, od, kV, doc, pm, an, ct, osl, hm, lk, hcd, kp⟩ := T
  refine ⟨f, hm, kp, fun A outer s H us vs Q E hg hr e0 r hsp => ?_⟩
  have hl := len vs H Q E hsp
  refine StX.run_bnd lk hcd S hr e0 (G := fun xs H2 => xs = vs ∧ H2 = H) (fun A' Ex Q' h => ?_) (fun s2 H2 xs he hr' => ?_)
  · rw [hb kV doc pm an (.ref c) ct us (by rw [← r.length]; exact hl)]
    exact wpAny_pure (h s H vs us e0 Un.refl rfl (fun _ _ z => z) r hl ⟨rfl, rfl⟩)
  · obtain ⟨rfl, rfl⟩ := he
    obtain ⟨t, h, q⟩ := hbody f A outer s2 H2 xs Q E hg hr' hsp
    exact ⟨t, h.nox, q⟩
/-- x(lambda: body), x a def of the module -/
theorem pe_lamOf {X : Cx} {T : List (Addr × Str)} {TT : (XK → Hp → VK → Prop) → Hp → VK → Prop} {x a : Str} {st : Stmt} {c P : Addr} {k : Nat} {Ng : List Str} {params : Arguments} {body : Expr} {scope : Scope} {t : XK → TE} {p lpos pos : Pos} (hg : Gl X x) (S : Stands X.K X.mg x st) (Sg : FnScope Ng [a] (defScope st))
    (hb : ∀ (kV doc pm : Value) (an : Option Addr) (cdv ct : Value) (us : List Value), us.length = 1 → bindArgs (PySem.W.fnOf x x (defArgs st) (defBody st) (defScope st) .none kV doc pm an cdv ct) ⟨us, []⟩ = pure ([a].zip us))
    (hNg : Ng[0]? = some a) (hva : Vis (defScope st) a) (hG : ∀ g cdv, LamX.GivesTo X Ng x (defScope st) g cdv (defBody st) a (X.env.qual ++ "<lambda>") TT)
    (TB : LamX.TabB X.base X.mg c P) (hcode : X.env.code = .ref c) (hmT : (P, X.env.qual ++ "<lambda>") ∈ T) (hu : ∀ p ∈ T, p.1 = P → p.2 = X.env.qual ++ "<lambda>") (hr : Room (k + 2) X.A) (L : LamX.LamS X.env.scope scope) (hdef : defaultsOf params X.env = ([], []))
    (hbind : ∀ (q : Str) (cl : List (Str × Addr)) (pm cv ctv : Value), bindArgs (PySem.W.kla_fn "<lambda>" q params body scope cl pm cv ctv) ⟨[], []⟩ = pure [])
    (hbody : ∀ (A : Around) (outer : List Env) (s : Shared) (H : Hp) (E : XK) (f c' : Addr), Room k (A.deeper (LamX.lamEnv X scope s.heap.objs.size f c')) → PE (LamX.lamCx X A outer s H E scope f c') body (t E))
    (hdb : (x == ("__debug__" : Str)) = false := by decide) (hd : (a == ("__debug__" : Str)) = false := by decide) (hcd : (a == ("__classdict__" : Str)) = false := by decide) :
    PE X (.Call (.Name x p) [.Lambda params body scope lpos] [] pos) (LamX.tLam T TT t) := by
  obtain ⟨f, fd, hm, F⟩ := S
  have kp := F.kp
  have hbd := F.binds (ps := [a]) hb
  obtain ⟨oc, od, kV, doc, pm, an, cdv, ct, osl, rfl, lk, hcd2⟩ := F.ex
  exact LamX.pe_lamcall hg hm kp lk hcd2 hbd Sg hNg hva (hG f cdv) TB hcode hmT hu hr L hdef hbind hbody hdb hd hcd
end Cb

end

section
set_option maxRecDepth 100000
set_option maxHeartbeats 4000000
namespace Cb
open PySem PySem.Spec PyProof.Rows L2 LamX
mutual
theorem DA.extN {H H' : Hp} (s : ExtN H H') : ∀ (d : PyData) (v : V), DA H v d → DA H' v d
  | .none, _, h => by cases h; exact .non
  | .bool b, _, h => by cases h; exact .bl b
  | .int i, _, h => by cases h; exact .int i
  | .str x, _, h => by cases h; exact .str x
  | .list ds, _, h => by
    cases h with
    | lst ha hn hs hd => exact .lst (s _ _ ha (fun _ z => nomatch z)) hn hs (DAll.extN s ds _ hd)
  | .tuple ds, _, h => by
    cases h with
    | tup ha hd => exact .tup (s _ _ ha (fun _ z => nomatch z)) (DAll.extN s ds _ hd)
  | .dict _, _, h => by
    cases h with
    | dct ha => exact .dct (s _ _ ha (fun _ z => nomatch z))
    | dc1 ha => exact .dc1 (s _ _ ha (fun _ z => nomatch z))
theorem DAll.extN {H H' : Hp} (s : ExtN H H') : ∀ (ds : List PyData) (vs : List V), DAll H vs ds → DAll H' vs ds
  | [], _, h => by cases h; exact .nil
  | d :: ds, _, h => by
    cases h with
    | cons h1 h2 => exact .cons (DA.extN s d _ h1) (DAll.extN s ds _ h2)
end
theorem DA.ext' {H H' : Hp} {v : V} {d : PyData} (s : ExtN H H') (h : DA H v d) : DA H' v d := DA.extN s d v h
theorem DAll.ext' {H H' : Hp} {v : List V} {d : List PyData} (s : ExtN H H') (h : DAll H v d) : DAll H' v d := DAll.extN s d v h
theorem DAll.same' {H H' : Hp} {v : List V} {d : List PyData} (s : L2.Same H H') (h : DAll H v d) : DAll H' v d := h.same s
theorem DAll.new {H : Hp} {p : Addr} {u : HO} {v : List V} {d : List PyData} (n : H p = none) (h : DAll H v d) : DAll (upd H p u) v d := h.same (same_upd n)
theorem ex_new {H H1 : Hp} {p : Addr} {u : HO} (n : H1 p = none) (h : ExtN H H1) : ExtN H (upd H1 p u) := h.trans (.of (same_upd n))
theorem ex_same {H H1 H2 : Hp} (s : L2.Same H1 H2) (h : ExtN H H1) : ExtN H H2 := h.trans (.of s)
theorem ex_ext {H H1 H2 : Hp} (s : ExtN H1 H2) (h : ExtN H H1) : ExtN H H2 := h.trans s
theorem ext_dK {H H' : Hp} {a : Addr} {xs} (s : ExtN H H') (h : H a = some (.dK xs)) : H' a = some (.dK xs) := s _ _ h (fun _ z => nomatch z)
/-- behind a loop's target, what follows the turn hidden -/
theorem g_hide {g : TG} {v : V} {tb : TS} {D : Ends} {σ : L2.St} {H : Hp} (h : ∀ U : L2.St → Hp → Prop, (∀ σ H, D.nx σ H → U σ H) → g v σ H fun σ2 H2 => tb { D with nx := U } σ2 H2) : g v σ H fun σ2 H2 => tb D σ2 H2 := h D.nx (fun _ _ z => z)
/-- a list made behind G is written over -/
theorem ex_over {G H H1 : Hp} {l : Addr} {u : HO} (s : ExtN G H1) (n : H1 l = none) (t : ExtN G H) : ExtN G (upd H l u) := fun b o e hn => by
  have h : b ≠ l := fun z => by
    subst z
    rw [s b o e hn] at n
    cases n
  rw [upd_ne h]
  exact t b o e hn
theorem Tabs.over {T : List (Addr × Str)} {H : Hp} {l : Addr} {ys : List V} {u : HO} (hl : H l = some (.lst ys)) (t : Tabs T H) : Tabs T (upd H l u) := fun p hp => by
  obtain ⟨ps, h1, h2, h3⟩ := t p hp
  have a : ∀ b o, H b = some o → (∀ zs, o ≠ .lst zs) → upd H l u b = some o := fun b o e n => by
    have h : b ≠ l := fun z => by
      subst z
      rw [hl] at e
      exact n _ (Option.some.inj e).symm
    rw [upd_ne h]
    exact e
  refine ⟨ps, a _ _ h1 (fun _ z => nomatch z), h2, fun pos cv e => ?_⟩
  obtain ⟨c', e1, e2⟩ := h3 pos cv e
  exact ⟨c', e1, a _ _ e2 (fun _ z => by unfold CodeO at z; cases z)⟩
/-- where nothing is raised -/
theorem Gives.calm {P : Program} {w : World} {K : PySem.W.Frag} {mg : Str → Option Value} {base : Heap} {k : Nat} {x : Str} {sp : Sp} (F : Gives P w K mg base (L2.CX P w) k x sp) : Gives P w K mg base CX0 k x (fun vs H Q _ => sp vs H Q fun _ _ _ => False) := by
  obtain ⟨f, hm, hk, F⟩ := F
  refine ⟨f, hm, hk, fun A outer s H us vs Q E hr e0 r h => codeAny_mono (F A outer s H us vs Q (fun _ _ _ => False) hr e0 r h) fun y s' hq => ?_⟩
  match y, hq with
  | .ok (.ret u), hq => exact hq
  | .error e, hq =>
    obtain ⟨_, _, _, _, _, _, _, _, _, _, _, _, z⟩ := hq
    exact z.elim
end Cb

end

section
set_option maxRecDepth 100000
set_option maxHeartbeats 4000000
namespace Cb
open PySem PySem.Spec PyProof.Rows L2
def topS (i : Nat) : Stmt := PySem.Challenge.pw_codeback_k02_numbers_and_operations_refu.main.body.getD i (.Pass ⟨0, 0, 0, 0⟩)
abbrev s_is_integer : Stmt := topS 31
abbrev s_is_word : Stmt := topS 32
abbrev s_wrapped : Stmt := topS 33
abbrev s_quotient_of : Stmt := topS 34
abbrev s_compared : Stmt := topS 35
abbrev s_bits_of : Stmt := topS 36
abbrev s_result_of : Stmt := topS 37
abbrev s_wrap : Stmt := topS 38
abbrev s_operate : Stmt := topS 39
abbrev s_law_cell : Stmt := topS 41
abbrev s_law_pool : Stmt := topS 42
abbrev s_law_draw : Stmt := topS 43
abbrev s_law_fit : Stmt := topS 44
abbrev s_law_split : Stmt := topS 45
abbrev s_law_do : Stmt := topS 46
abbrev s_law_figure : Stmt := topS 47
abbrev s_law_kind : Stmt := topS 48
abbrev s_law_caught : Stmt := topS 49
abbrev s_law_odd : Stmt := topS 50
abbrev s_law_no_way : Stmt := topS 51
abbrev s_law_asked : Stmt := topS 52
abbrev s_law_is_word : Stmt := topS 53
abbrev s_law_due : Stmt := topS 54
abbrev s_law_way : Stmt := topS 55
abbrev s_law_right : Stmt := topS 56
abbrev s_law_errors_right : Stmt := topS 57
abbrev s_law : Stmt := topS 58
theorem sc_is_integer : FnScope ["value"] ["value"] (defScope s_is_integer) := ⟨rfl, rfl, rfl, by decide +kernel, rfl, by decide +kernel, by decide +kernel⟩
theorem sc_is_word : FnScope ["value"] ["value"] (defScope s_is_word) := ⟨rfl, rfl, rfl, by decide +kernel, rfl, by decide +kernel, by decide +kernel⟩
theorem sc_wrapped : FnScope ["number"] ["number"] (defScope s_wrapped) := ⟨rfl, rfl, rfl, by decide +kernel, rfl, by decide +kernel, by decide +kernel⟩
theorem sc_quotient_of : FnScope ["one", "other", "quotient"] ["one", "other"] (defScope s_quotient_of) := ⟨rfl, rfl, rfl, by decide +kernel, rfl, by decide +kernel, by decide +kernel⟩
theorem sc_compared : FnScope ["operation", "one", "other"] ["operation", "one", "other"] (defScope s_compared) := ⟨rfl, rfl, rfl, by decide +kernel, rfl, by decide +kernel, by decide +kernel⟩
theorem sc_bits_of : FnScope ["operation", "one", "other", "places"] ["operation", "one", "other"] (defScope s_bits_of) := ⟨rfl, rfl, rfl, by decide +kernel, rfl, by decide +kernel, by decide +kernel⟩
theorem sc_result_of : FnScope ["operation", "one", "other", "quotient"] ["operation", "one", "other"] (defScope s_result_of) := ⟨rfl, rfl, rfl, by decide +kernel, rfl, by decide +kernel, by decide +kernel⟩
theorem sc_wrap : FnScope ["number"] ["number"] (defScope s_wrap) := ⟨rfl, rfl, rfl, by decide +kernel, rfl, by decide +kernel, by decide +kernel⟩
theorem sc_operate : FnScope ["operation", "words", "index", "word"] ["operation", "words"] (defScope s_operate) := ⟨rfl, rfl, rfl, by decide +kernel, rfl, by decide +kernel, by decide +kernel⟩
theorem sc_law_cell : FnScope ["_law_script", "_law_k", "_law_state", "_law_figure_here"] ["_law_script", "_law_k"] (defScope s_law_cell) := ⟨rfl, rfl, rfl, by decide +kernel, rfl, by decide +kernel, by decide +kernel⟩
theorem sc_law_pool : FnScope ["_law_figure_here", "_law_digits"] ["_law_figure_here"] (defScope s_law_pool) := ⟨rfl, rfl, rfl, by decide +kernel, rfl, by decide +kernel, by decide +kernel⟩
theorem sc_law_draw : FnScope ["_law_pool_here", "_law_most", "_law_state", "_law_digit"] ["_law_pool_here", "_law_most"] (defScope s_law_draw) := ⟨rfl, rfl, rfl, by decide +kernel, rfl, by decide +kernel, by decide +kernel⟩
theorem sc_law_fit : FnScope ["_law_figure_here"] ["_law_figure_here"] (defScope s_law_fit) := ⟨rfl, rfl, rfl, by decide +kernel, rfl, by decide +kernel, by decide +kernel⟩
theorem sc_law_split : FnScope ["_law_high", "_law_low", "_law_part"] ["_law_high", "_law_low"] (defScope s_law_split) := ⟨rfl, rfl, rfl, by decide +kernel, rfl, by decide +kernel, by decide +kernel⟩
theorem sc_law_do : FnScope ["_law_way_here", "_law_a", "_law_b", "_law_u", "_law_v"] ["_law_way_here", "_law_a", "_law_b"] (defScope s_law_do) := ⟨rfl, rfl, rfl, by decide +kernel, rfl, by decide +kernel, by decide +kernel⟩
theorem sc_law_figure : FnScope ["_law_pool_here", "_law_some"] ["_law_pool_here"] (defScope s_law_figure) := ⟨rfl, rfl, rfl, by decide +kernel, rfl, by decide +kernel, by decide +kernel⟩
theorem sc_law_kind : FnScope ["_law_e", "_law_found", "_law_bases", "_law_own", "_law_at"] ["_law_e"] (defScope s_law_kind) := ⟨rfl, rfl, rfl, by decide +kernel, rfl, by decide +kernel, by decide +kernel⟩
theorem sc_law_caught : FnScope ["_law_act", "_law_e"] ["_law_act"] (defScope s_law_caught) := ⟨rfl, rfl, rfl, by decide +kernel, rfl, by decide +kernel, by decide +kernel⟩
theorem sc_law_odd : FnScope ["_law_pool_here", "_law_some"] ["_law_pool_here"] (defScope s_law_odd) := ⟨rfl, rfl, rfl, by decide +kernel, rfl, by decide +kernel, by decide +kernel⟩
theorem sc_law_no_way : FnScope ["_law_pool_here", "_law_some"] ["_law_pool_here"] (defScope s_law_no_way) := ⟨rfl, rfl, rfl, by decide +kernel, rfl, by decide +kernel, by decide +kernel⟩
theorem sc_law_asked : FnScope ["_law_way_here", "_law_given"] ["_law_way_here", "_law_given"] (defScope s_law_asked) := ⟨rfl, rfl, rfl, by decide +kernel, rfl, by decide +kernel, by decide +kernel⟩
theorem sc_law_is_word : FnScope ["_law_thing"] ["_law_thing"] (defScope s_law_is_word) := ⟨rfl, rfl, rfl, by decide +kernel, rfl, by decide +kernel, by decide +kernel⟩
theorem sc_law_due : FnScope ["_law_way_here", "_law_given", "_law_bad", "_law_at"] ["_law_way_here", "_law_given"] (defScope s_law_due) := ⟨rfl, rfl, rfl, by decide +kernel, rfl, by decide +kernel, by decide +kernel⟩
theorem sc_law_way : FnScope ["_law_pool_here", "_law_ways"] ["_law_pool_here"] (defScope s_law_way) := ⟨rfl, rfl, rfl, by decide +kernel, rfl, by decide +kernel, by decide +kernel⟩
theorem sc_law_right : FnScope ["_law_pool_here", "_law_turn", "_law_way_here", "_law_odd_here", "_law_no_way_here", "_law_given", "_law_k", "_law_some", "_law_row", "_law_a", "_law_b", "_law_told"] ["_law_pool_here"] (defScope s_law_right) := ⟨rfl, rfl, rfl, by decide +kernel, rfl, by decide +kernel, by decide +kernel⟩
theorem sc_law_errors_right : FnScope ["_law_told", "_law_more"] [] (defScope s_law_errors_right) := ⟨rfl, rfl, rfl, by decide +kernel, rfl, by decide +kernel, by decide +kernel⟩
theorem sc_law : FnScope ["_law_script", "_law_given", "_law_due_here", "_law_whole", "_law_k"] ["_law_script"] (defScope s_law) := ⟨rfl, rfl, rfl, by decide +kernel, rfl, by decide +kernel, by decide +kernel⟩
/-- what the top has left -/
structure Txt (K : PySem.W.Frag) (mg : Str → Option Value) : Prop where
  d_is_integer : Stands K mg "is_integer" s_is_integer
  d_is_word : Stands K mg "is_word" s_is_word
  d_wrapped : Stands K mg "wrapped" s_wrapped
  d_quotient_of : Stands K mg "quotient_of" s_quotient_of
  d_compared : Stands K mg "compared" s_compared
  d_bits_of : Stands K mg "bits_of" s_bits_of
  d_result_of : Stands K mg "result_of" s_result_of
  d_wrap : Stands K mg "wrap" s_wrap
  d_operate : Stands K mg "operate" s_operate
  d_law_cell : Stands K mg "_law_cell" s_law_cell
  d_law_pool : Stands K mg "_law_pool" s_law_pool
  d_law_draw : Stands K mg "_law_draw" s_law_draw
  d_law_fit : Stands K mg "_law_fit" s_law_fit
  d_law_split : Stands K mg "_law_split" s_law_split
  d_law_do : Stands K mg "_law_do" s_law_do
  d_law_figure : Stands K mg "_law_figure" s_law_figure
  d_law_kind : Stands K mg "_law_kind" s_law_kind
  d_law_caught : Stands K mg "_law_caught" s_law_caught
  d_law_odd : Stands K mg "_law_odd" s_law_odd
  d_law_no_way : Stands K mg "_law_no_way" s_law_no_way
  d_law_asked : Stands K mg "_law_asked" s_law_asked
  d_law_is_word : Stands K mg "_law_is_word" s_law_is_word
  d_law_due : Stands K mg "_law_due" s_law_due
  d_law_way : Stands K mg "_law_way" s_law_way
  d_law_right : Stands K mg "_law_right" s_law_right
  d_law_errors_right : Stands K mg "_law_errors_right" s_law_errors_right
  d_law : Stands K mg "law" s_law
  n_isinstance : mg "isinstance" = none
  n_int : mg "int" = none
  n_bool : mg "bool" = none
  n_str : mg "str" = none
  n_abs : mg "abs" = none
  n_len : mg "len" = none
  n_enumerate : mg "enumerate" = none
  n_divmod : mg "divmod" = none
  n_range : mg "range" = none
  n_all : mg "all" = none
  n_max : mg "max" = none
  n_min : mg "min" = none
  n_repr : mg "repr" = none
  n_list : mg "list" = none
  n_ValueError : mg "ValueError" = none
  n_LookupError : mg "LookupError" = none
  n_ArithmeticError : mg "ArithmeticError" = none
  c_LEAST : GlobV mg "LEAST" (.int (-2147483648))
  c_GREATEST : GlobV mg "GREATEST" (.int (2147483647))
  c_SINGLE : GlobT K mg "SINGLE" [.str "neg", .str "not"]
  c_DOUBLE : GlobT K mg "DOUBLE" [.str "add", .str "sub", .str "mul", .str "div", .str "rem", .str "and", .str "or", .str "xor", .str "shl", .str "shr", .str "lt", .str "le", .str "gt", .str "ge", .str "eq", .str "ne"]
section
variable {P : Program} {w : World} {K : PySem.W.Frag} {mg : Str → Option Value} {base : Heap}
theorem g_is_integer (T : Txt K mg)  : Gives P w K mg base CX0 1 "is_integer" spIsInt := by
  refine gives_fun T.d_is_integer sc_is_integer (fun _ _ _ _ _ _ us hl => match us, hl with | [_], _ => rfl) (fun vs H Q E h => ?_) (fun f cdv A outer s H vs Q E hr h => ?_)
  · obtain ⟨i, rfl, _⟩ := h
    rfl
  · obtain ⟨i, rfl, q⟩ := h
    refine ⟨_, (pss_one (ps_ret (pe_and (pe_callB call_isi (by rfl) T.n_isinstance (by decide +kernel) (pa_cons (pv 0) (pa_cons (pe_bltn (v := .ty "int") (by rfl) T.n_int (by decide +kernel) rfl) pa_nil))) (pe_one (pe_not (pe_callB call_isi (by rfl) T.n_isinstance (by decide +kernel) (pa_cons (pv 0) (pa_cons (pe_bltn (v := .ty "bool") (by rfl) T.n_bool (by decide +kernel) rfl) pa_nil)))))))), ?_⟩
    exact ⟨_, rfl, _, _, _, _, true, rfl, .ty "int", .base (.int i), kit_ty (by decide +kernel), true, rfl, iteT ⟨_, rfl, _, _, _, _, false, rfl, .ty "bool", .base (.int i), kit_ty (by decide +kernel), false, rfl, q⟩⟩
theorem g_is_word (T : Txt K mg) (g_is_integer : Gives P w K mg base CX0 1 "is_integer" spIsInt) : Gives P w K mg base CX0 2 "is_word" spIsWord := by
  refine gives_fun T.d_is_word sc_is_word (fun _ _ _ _ _ _ us hl => match us, hl with | [_], _ => rfl) (fun vs H Q E h => ?_) (fun f cdv A outer s H vs Q E hr h => ?_)
  · obtain ⟨i, rfl, _⟩ := h
    rfl
  · obtain ⟨i, rfl, q⟩ := h
    refine ⟨_, (pss_one (ps_ret (pe_and (pe_own g_is_integer (hr.mono (by decide)) (by rfl) pass0 (pa_cons (pv 0) pa_nil)) (pe_one (pe_chain op_le op_le (pe_gv (by rfl) T.c_LEAST) (pv 0) (pe_gv (by rfl) T.c_GREATEST)))))), ?_⟩
    refine ⟨_, rfl, i, rfl, true, rfl, iteT ⟨_, rfl, _, _, rfl, rfl, _, rfl, ite2 (fun c => ?_) (fun c => ?_)⟩⟩
    · have c1 : (-2147483648 : Int) ≤ i := of_decide_eq_true c
      refine ⟨_, _, rfl, rfl, ?_⟩
      have e : decide (i ≤ 2147483647) = decide (Wd i) := decide_eq_decide.mpr ⟨fun z => ⟨c1, z⟩, fun z => z.2⟩
      show Q (.bl (decide (i ≤ 2147483647))) H
      rw [e]
      exact q
    · have c1 : ¬ (-2147483648 : Int) ≤ i := fun z => c (decide_eq_true z)
      have e : decide (Wd i) = false := decide_eq_false fun z => c1 z.1
      rw [e] at q
      exact q
theorem g_wrapped (T : Txt K mg)  : Gives P w K mg base CX0 1 "wrapped" spWrapped := by
  refine gives_fun T.d_wrapped sc_wrapped (fun _ _ _ _ _ _ us hl => match us, hl with | [_], _ => rfl) (fun vs H Q E h => ?_) (fun f cdv A outer s H vs Q E hr h => ?_)
  · obtain ⟨i, rfl, _⟩ := h
    rfl
  · obtain ⟨i, rfl, q⟩ := h
    refine ⟨_, (pss_one (ps_ret (pe_op op_add (pe_op op_mod (pe_op op_sub (pv 0) (pe_gv (by rfl) T.c_LEAST)) (pe_powc 4294967296 ⟨by decide, by decide, by decide⟩ (by decide))) (pe_gv (by rfl) T.c_LEAST)))), ?_⟩
    exact ⟨_, rfl, _, _, rfl, rfl, _, _, rfl, rfl, (by show (0 : Int) < 4294967296; decide), _, _, rfl, rfl, q⟩
theorem g_quotient_of (T : Txt K mg)  : Gives P w K mg base CX0 1 "quotient_of" spQuot := by
  refine gives_fun T.d_quotient_of sc_quotient_of (fun _ _ _ _ _ _ us hl => match us, hl with | [_, _], _ => rfl) (fun vs H Q E h => ?_) (fun f cdv A outer s H vs Q E hr h => ?_)
  · obtain ⟨i, j, rfl, _⟩ := h
    rfl
  · obtain ⟨i, j, rfl, h0, hj, q⟩ := h
    refine ⟨_, (pss_cons (ps_set (i := 2) sc_quotient_of.nd rfl (Or.inl rfl) (pe_op op_fdivW (pe_callB call_abs (by rfl) T.n_abs (by decide +kernel) (pa_cons (pv 0) pa_nil)) (pe_callB call_abs (by rfl) T.n_abs (by decide +kernel) (pa_cons (pv 1) pa_nil))))
      (pss_one (ps_ret (pe_ifExp (pt_cmpR op_eq (pe_cmpR op_lt (pv 0) pe_int (nomark _)) (pe_cmpR op_lt (pv 1) pe_int (nomark _)) (nomark _)) (pv 2) (pe_un un_neg (pv 2)))))), ?_⟩
    have hb : CDivW (ab i) (ab j) := wide_div (b := 64) (by unfold ab; split <;> omega) (by unfold ab Wd at *; split <;> omega) (by decide) (by decide)
    refine ⟨_, rfl, _, rfl, _, rfl, _, rfl, _, _, rfl, rfl, hb, ?_⟩
    refine ⟨_, rfl, _, _, rfl, rfl, _, rfl, _, _, rfl, rfl, rfl, _, rfl, ?_⟩
    unfold quo at q
    refine ite2 (fun c => ?_) (fun c => ?_)
    · have c1 : decide (i < 0) = decide (j < 0) := V.bl.inj (of_decide_eq_true c)
      rw [if_pos c1] at q
      exact ⟨_, rfl, q⟩
    · have c1 : ¬ decide (i < 0) = decide (j < 0) := fun z => c (decide_eq_true (congrArg V.bl z))
      rw [if_neg c1] at q
      exact ⟨_, rfl, _, rfl, q⟩
theorem g_compared (T : Txt K mg)  : Gives P w K mg base CX0 1 "compared" spCompared := by
  refine gives_fun T.d_compared sc_compared (fun _ _ _ _ _ _ us hl => match us, hl with | [_, _, _], _ => rfl) (fun vs H Q E h => ?_) (fun f cdv A outer s H vs Q E hr h => ?_)
  · obtain ⟨o, a, b, rfl, _⟩ := h
    rfl
  · obtain ⟨o, a, b, rfl, ho, q⟩ := h
    refine ⟨_, (pss_cons (ps_if (pt_inC (i := 0) rfl (by first | exact Or.inl rfl | exact Or.inr (Or.inl rfl) | exact Or.inr (Or.inr rfl)) (pc_cons (pc_cons pc_nil))) (pss_one (ps_ret (pe_cmpR op_eq (pe_cmpR op_eq (pv 1) (pv 2) (nomark _)) (pe_cmpR op_eq (pv 0) pe_str (nomark _)) (nomark _)))) pss_nil)
      (pss_cons (ps_if (pt_inC (i := 0) rfl (by first | exact Or.inl rfl | exact Or.inr (Or.inl rfl) | exact Or.inr (Or.inr rfl)) (pc_cons (pc_cons pc_nil))) (pss_one (ps_ret (pe_cmpR op_eq (pe_cmpR op_lt (pv 1) (pv 2) (nomark _)) (pe_cmpR op_eq (pv 0) pe_str (nomark _)) (nomark _)))) pss_nil)
      (pss_one (ps_ret (pe_cmpR op_eq (pe_cmpR op_le (pv 1) (pv 2) (nomark _)) (pe_cmpR op_eq (pv 0) pe_str (nomark _)) (nomark _)))))), ?_⟩
    cases o <;> first | exact absurd ho (by decide) | skip
    · refine ⟨_, rfl, rfl, fun H1 s1 => ⟨_, rfl, iteF ⟨_, rfl, rfl, fun H2 s2 => ⟨_, rfl, iteT ⟨_, rfl, _, rfl, _, _, rfl, rfl, _, rfl, rfl, rfl, ?_⟩⟩⟩⟩⟩
      have e : ∀ c : Bool, decide (V.bl c = V.bl (decide (V.str Op.lt.name = V.str "lt"))) = c := by decide
      exact bl_cast (e _) (q _ (s1.trans s2))
    · refine ⟨_, rfl, rfl, fun H1 s1 => ⟨_, rfl, iteF ⟨_, rfl, rfl, fun H2 s2 => ⟨_, rfl, iteF ⟨_, rfl, _, rfl, _, _, rfl, rfl, _, rfl, rfl, rfl, ?_⟩⟩⟩⟩⟩
      have e : ∀ c : Bool, decide (V.bl c = V.bl (decide (V.str Op.le.name = V.str "le"))) = c := by decide
      exact bl_cast (e _) (q _ (s1.trans s2))
    · refine ⟨_, rfl, rfl, fun H1 s1 => ⟨_, rfl, iteF ⟨_, rfl, rfl, fun H2 s2 => ⟨_, rfl, iteF ⟨_, rfl, _, rfl, _, _, rfl, rfl, _, rfl, rfl, rfl, ?_⟩⟩⟩⟩⟩
      have e : ∀ c : Bool, decide (V.bl c = V.bl (decide (V.str Op.gt.name = V.str "le"))) = !c := by decide
      exact bl_cast (e _) (q _ (s1.trans s2))
    · refine ⟨_, rfl, rfl, fun H1 s1 => ⟨_, rfl, iteF ⟨_, rfl, rfl, fun H2 s2 => ⟨_, rfl, iteT ⟨_, rfl, _, rfl, _, _, rfl, rfl, _, rfl, rfl, rfl, ?_⟩⟩⟩⟩⟩
      have e : ∀ c : Bool, decide (V.bl c = V.bl (decide (V.str Op.ge.name = V.str "lt"))) = !c := by decide
      exact bl_cast (e _) (q _ (s1.trans s2))
    · refine ⟨_, rfl, rfl, fun H1 s1 => ⟨_, rfl, iteT ⟨_, rfl, _, rfl, rfl, _, rfl, rfl, rfl, ?_⟩⟩⟩
      have e : ∀ c : Bool, decide (V.bl c = V.bl (decide (V.str Op.eq.name = V.str "eq"))) = c := by decide
      refine bl_cast (e _) (bl_cast ?_ (q _ s1))
      show decide (V.int a = V.int b) = decide (a = b)
      rw [show decide (V.int a = V.int b) = decide (a = b) from decide_eq_decide.mpr ⟨V.int.inj, congrArg _⟩]
    · refine ⟨_, rfl, rfl, fun H1 s1 => ⟨_, rfl, iteT ⟨_, rfl, _, rfl, rfl, _, rfl, rfl, rfl, ?_⟩⟩⟩
      have e : ∀ c : Bool, decide (V.bl c = V.bl (decide (V.str Op.ne.name = V.str "eq"))) = !c := by decide
      refine bl_cast (e _) (bl_cast ?_ (q _ s1))
      show (!decide (V.int a = V.int b)) = (!decide (a = b))
      rw [show decide (V.int a = V.int b) = decide (a = b) from decide_eq_decide.mpr ⟨V.int.inj, congrArg _⟩]
theorem g_bits_of (T : Txt K mg) (g_wrapped : Gives P w K mg base CX0 1 "wrapped" spWrapped) : Gives P w K mg base CX0 2 "bits_of" spBits := by
  refine gives_fun T.d_bits_of sc_bits_of (fun _ _ _ _ _ _ us hl => match us, hl with | [_, _, _], _ => rfl) (fun vs H Q E h => ?_) (fun f cdv A outer s H vs Q E hr h => ?_)
  · obtain ⟨o, a, b, rfl, _⟩ := h
    rfl
  · obtain ⟨o, a, b, rfl, ho, ha, q⟩ := h
    refine ⟨_, (pss_cons (ps_if (pt_cmpR op_eq (pv 0) pe_str (nomark _)) (pss_one (ps_ret (pe_op op_and (pv 1) (pv 2)))) pss_nil)
      (pss_cons (ps_if (pt_cmpR op_eq (pv 0) pe_str (nomark _)) (pss_one (ps_ret (pe_op op_or (pv 1) (pv 2)))) pss_nil)
      (pss_cons (ps_if (pt_cmpR op_eq (pv 0) pe_str (nomark _)) (pss_one (ps_ret (pe_op op_xor (pv 1) (pv 2)))) pss_nil)
      (pss_cons (ps_set (i := 3) sc_bits_of.nd rfl (Or.inl rfl) (pe_op op_mod (pv 2) pe_int))
      (pss_one (ps_ret (pe_ifExp (pt_cmpR op_eq (pv 0) pe_str (nomark _)) (pe_own g_wrapped (hr.mono (by decide)) (by rfl) pass0 (pa_cons (pe_op op_shl (pv 1) (pv 3)) pa_nil)) (pe_op op_shr (pv 1) (pv 3))))))))), ?_⟩
    cases o <;> first | exact absurd ho (by decide) | skip
    · exact ⟨_, rfl, rfl, _, rfl, iteT ⟨_, rfl, _, rfl, _, _, rfl, rfl, q⟩⟩
    · exact ⟨_, rfl, rfl, _, rfl, iteF ⟨_, rfl, rfl, _, rfl, iteT ⟨_, rfl, _, rfl, _, _, rfl, rfl, q⟩⟩⟩
    · exact ⟨_, rfl, rfl, _, rfl, iteF ⟨_, rfl, rfl, _, rfl, iteF ⟨_, rfl, rfl, _, rfl, iteT ⟨_, rfl, _, rfl, _, _, rfl, rfl, q⟩⟩⟩⟩
    · refine ⟨_, rfl, rfl, _, rfl, iteF ⟨_, rfl, rfl, _, rfl, iteF ⟨_, rfl, rfl, _, rfl, iteF ⟨_, rfl, _, _, rfl, rfl, (by show (0 : Int) < 32; decide), ?_⟩⟩⟩⟩
      exact ⟨_, rfl, rfl, _, rfl, iteT ⟨_, rfl, _, rfl, _, _, rfl, rfl, ⟨Int.emod_nonneg _ (by decide), by omega, by unfold Wd at ha; omega⟩, _, rfl, q⟩⟩
    · refine ⟨_, rfl, rfl, _, rfl, iteF ⟨_, rfl, rfl, _, rfl, iteF ⟨_, rfl, rfl, _, rfl, iteF ⟨_, rfl, _, _, rfl, rfl, (by show (0 : Int) < 32; decide), ?_⟩⟩⟩⟩
      exact ⟨_, rfl, rfl, _, rfl, iteF ⟨_, rfl, _, rfl, _, _, rfl, rfl, Int.emod_nonneg _ (by decide), q⟩⟩
theorem g_result_of (T : Txt K mg) (g_wrapped : Gives P w K mg base CX0 1 "wrapped" spWrapped) (g_quotient_of : Gives P w K mg base CX0 1 "quotient_of" spQuot) (g_compared : Gives P w K mg base CX0 1 "compared" spCompared) (g_bits_of : Gives P w K mg base CX0 2 "bits_of" spBits) : Gives P w K mg base CX0 3 "result_of" spResult := by
  refine gives_fun T.d_result_of sc_result_of (fun _ _ _ _ _ _ us hl => match us, hl with | [_, _, _], _ => rfl) (fun vs H Q E h => ?_) (fun f cdv A outer s H vs Q E hr h => ?_)
  · obtain ⟨o, a, b, rfl, _⟩ := h
    rfl
  · obtain ⟨o, a, b, rfl, ha, hb, q⟩ := h
    refine ⟨_, (pss_cons (ps_if (pt_inC (i := 0) rfl (by first | exact Or.inl rfl | exact Or.inr (Or.inl rfl) | exact Or.inr (Or.inr rfl)) (pc_cons (pc_cons pc_nil))) (pss_cons (ps_if (pt_cmpR op_eq (pv 2) pe_int (nomark _)) (pss_one (ps_ret pe_non)) pss_nil)
      (pss_cons (ps_set (i := 3) sc_result_of.nd rfl (Or.inl rfl) (pe_own g_quotient_of (hr.mono (by decide)) (by rfl) pass0 (pa_cons (pv 1) (pa_cons (pv 2) pa_nil))))
      (pss_one (ps_ret (pe_own g_wrapped (hr.mono (by decide)) (by rfl) pass0 (pa_cons (pe_ifExp (pt_cmpR op_eq (pv 0) pe_str (nomark _)) (pv 3) (pe_op op_sub (pv 1) (pe_op op_mul (pv 2) (pv 3)))) pa_nil)))))) pss_nil)
      (pss_cons (ps_if (pt_inC (i := 0) rfl (by first | exact Or.inl rfl | exact Or.inr (Or.inl rfl) | exact Or.inr (Or.inr rfl)) (pc_cons (pc_cons (pc_cons (pc_cons (pc_cons (pc_cons pc_nil))))))) (pss_one (ps_ret (pe_callTy call_int1 (by rfl) T.n_int (by decide +kernel) (pa_cons (pe_own g_compared (hr.mono (by decide)) (by rfl) pass0 (pa_cons (pv 0) (pa_cons (pv 1) (pa_cons (pv 2) pa_nil)))) pa_nil)))) pss_nil)
      (pss_cons (ps_if (pt_inC (i := 0) rfl (by first | exact Or.inl rfl | exact Or.inr (Or.inl rfl) | exact Or.inr (Or.inr rfl)) (pc_cons (pc_cons (pc_cons (pc_cons (pc_cons pc_nil)))))) (pss_one (ps_ret (pe_own g_bits_of (hr.mono (by decide)) (by rfl) pass0 (pa_cons (pv 0) (pa_cons (pv 1) (pa_cons (pv 2) pa_nil)))))) pss_nil)
      (pss_cons (ps_if (pt_cmpR op_eq (pv 0) pe_str (nomark _)) (pss_one (ps_ret (pe_own g_wrapped (hr.mono (by decide)) (by rfl) pass0 (pa_cons (pe_op op_add (pv 1) (pv 2)) pa_nil)))) pss_nil)
      (pss_cons (ps_if (pt_cmpR op_eq (pv 0) pe_str (nomark _)) (pss_one (ps_ret (pe_own g_wrapped (hr.mono (by decide)) (by rfl) pass0 (pa_cons (pe_op op_sub (pv 1) (pv 2)) pa_nil)))) pss_nil)
      (pss_cons (ps_if (pt_cmpR op_eq (pv 0) pe_str (nomark _)) (pss_one (ps_ret (pe_own g_wrapped (hr.mono (by decide)) (by rfl) pass0 (pa_cons (pe_op op_mul (pv 1) (pv 2)) pa_nil)))) pss_nil)
      (pss_one (ps_ret (pe_own g_wrapped (hr.mono (by decide)) (by rfl) pass0 (pa_cons (pe_ifExp (pt_cmpR op_eq (pv 0) pe_str (nomark _)) (pe_un un_neg (pv 1)) (pe_op op_sub (pe_un un_neg (pv 1)) pe_int)) pa_nil)))))))))), ?_⟩
    have hm : CMul b (quo a b) := .inl ⟨by unfold Wd at hb; omega, by unfold Wd at hb; omega⟩
    have hm2 : CMul a b := .inl ⟨by unfold Wd at ha; omega, by unfold Wd at ha; omega⟩
    cases o
    · exact ⟨_, rfl, rfl, fun H1 s1 => ⟨_, rfl, iteF ⟨_, rfl, rfl, fun H2 s2 => ⟨_, rfl, iteF ⟨_, rfl, rfl, fun H3 s3 => ⟨_, rfl, iteF ⟨_, rfl, rfl, _, rfl, iteT ⟨_, rfl, _, rfl, _, _, rfl, rfl, _, rfl, q _ (s1.trans (s2.trans s3))⟩⟩⟩⟩⟩⟩⟩⟩
    · exact ⟨_, rfl, rfl, fun H1 s1 => ⟨_, rfl, iteF ⟨_, rfl, rfl, fun H2 s2 => ⟨_, rfl, iteF ⟨_, rfl, rfl, fun H3 s3 => ⟨_, rfl, iteF ⟨_, rfl, rfl, _, rfl, iteF ⟨_, rfl, rfl, _, rfl, iteT ⟨_, rfl, _, rfl, _, _, rfl, rfl, _, rfl, q _ (s1.trans (s2.trans s3))⟩⟩⟩⟩⟩⟩⟩⟩⟩
    · exact ⟨_, rfl, rfl, fun H1 s1 => ⟨_, rfl, iteF ⟨_, rfl, rfl, fun H2 s2 => ⟨_, rfl, iteF ⟨_, rfl, rfl, fun H3 s3 => ⟨_, rfl, iteF ⟨_, rfl, rfl, _, rfl, iteF ⟨_, rfl, rfl, _, rfl, iteF ⟨_, rfl, rfl, _, rfl, iteT ⟨_, rfl, _, rfl, _, _, rfl, rfl, hm2, _, rfl, q _ (s1.trans (s2.trans s3))⟩⟩⟩⟩⟩⟩⟩⟩⟩⟩
    · refine ⟨_, rfl, rfl, fun H1 s1 => ⟨_, rfl, iteT ⟨_, rfl, rfl, _, rfl, ite2 (fun c => ?_) (fun c => ?_)⟩⟩⟩
      · have e : b = 0 := V.int.inj (of_decide_eq_true c)
        have q1 := q _ s1
        subst e
        exact q1
      · have e : b ≠ 0 := fun z => c (decide_eq_true (congrArg V.int z))
        have q1 := q _ s1
        rw [res_div e] at q1
        exact ⟨_, rfl, _, rfl, _, _, rfl, e, hb, _, rfl, rfl, _, rfl, iteT ⟨_, rfl, _, rfl, q1⟩⟩
    · refine ⟨_, rfl, rfl, fun H1 s1 => ⟨_, rfl, iteT ⟨_, rfl, rfl, _, rfl, ite2 (fun c => ?_) (fun c => ?_)⟩⟩⟩
      · have e : b = 0 := V.int.inj (of_decide_eq_true c)
        have q1 := q _ s1
        subst e
        exact q1
      · have e : b ≠ 0 := fun z => c (decide_eq_true (congrArg V.int z))
        have q1 := q _ s1
        rw [res_rem e] at q1
        exact ⟨_, rfl, _, rfl, _, _, rfl, e, hb, _, rfl, rfl, _, rfl, iteF ⟨_, rfl, _, rfl, _, rfl, _, _, rfl, rfl, hm, _, _, rfl, rfl, _, rfl, q1⟩⟩
    · exact ⟨_, rfl, rfl, fun H1 s1 => ⟨_, rfl, iteF ⟨_, rfl, rfl, fun H2 s2 => ⟨_, rfl, iteF ⟨_, rfl, rfl, fun H3 s3 => ⟨_, rfl, iteT ⟨_, rfl, _, rfl, _, rfl, Op.and, a, b, rfl, rfl, ha, q _ (s1.trans (s2.trans s3))⟩⟩⟩⟩⟩⟩⟩
    · exact ⟨_, rfl, rfl, fun H1 s1 => ⟨_, rfl, iteF ⟨_, rfl, rfl, fun H2 s2 => ⟨_, rfl, iteF ⟨_, rfl, rfl, fun H3 s3 => ⟨_, rfl, iteT ⟨_, rfl, _, rfl, _, rfl, Op.or, a, b, rfl, rfl, ha, q _ (s1.trans (s2.trans s3))⟩⟩⟩⟩⟩⟩⟩
    · exact ⟨_, rfl, rfl, fun H1 s1 => ⟨_, rfl, iteF ⟨_, rfl, rfl, fun H2 s2 => ⟨_, rfl, iteF ⟨_, rfl, rfl, fun H3 s3 => ⟨_, rfl, iteT ⟨_, rfl, _, rfl, _, rfl, Op.xor, a, b, rfl, rfl, ha, q _ (s1.trans (s2.trans s3))⟩⟩⟩⟩⟩⟩⟩
    · exact ⟨_, rfl, rfl, fun H1 s1 => ⟨_, rfl, iteF ⟨_, rfl, rfl, fun H2 s2 => ⟨_, rfl, iteF ⟨_, rfl, rfl, fun H3 s3 => ⟨_, rfl, iteT ⟨_, rfl, _, rfl, _, rfl, Op.shl, a, b, rfl, rfl, ha, q _ (s1.trans (s2.trans s3))⟩⟩⟩⟩⟩⟩⟩
    · exact ⟨_, rfl, rfl, fun H1 s1 => ⟨_, rfl, iteF ⟨_, rfl, rfl, fun H2 s2 => ⟨_, rfl, iteF ⟨_, rfl, rfl, fun H3 s3 => ⟨_, rfl, iteT ⟨_, rfl, _, rfl, _, rfl, Op.shr, a, b, rfl, rfl, ha, q _ (s1.trans (s2.trans s3))⟩⟩⟩⟩⟩⟩⟩
    · exact ⟨_, rfl, rfl, fun H1 s1 => ⟨_, rfl, iteF ⟨_, rfl, rfl, fun H2 s2 => ⟨_, rfl, iteT ⟨_, rfl, _, rfl, _, rfl, Op.lt, a, b, rfl, rfl, fun H3 s3 => .inr ⟨_, rfl, q _ (s1.trans (s2.trans s3))⟩⟩⟩⟩⟩⟩
    · exact ⟨_, rfl, rfl, fun H1 s1 => ⟨_, rfl, iteF ⟨_, rfl, rfl, fun H2 s2 => ⟨_, rfl, iteT ⟨_, rfl, _, rfl, _, rfl, Op.le, a, b, rfl, rfl, fun H3 s3 => .inr ⟨_, rfl, q _ (s1.trans (s2.trans s3))⟩⟩⟩⟩⟩⟩
    · exact ⟨_, rfl, rfl, fun H1 s1 => ⟨_, rfl, iteF ⟨_, rfl, rfl, fun H2 s2 => ⟨_, rfl, iteT ⟨_, rfl, _, rfl, _, rfl, Op.gt, a, b, rfl, rfl, fun H3 s3 => .inr ⟨_, rfl, q _ (s1.trans (s2.trans s3))⟩⟩⟩⟩⟩⟩
    · exact ⟨_, rfl, rfl, fun H1 s1 => ⟨_, rfl, iteF ⟨_, rfl, rfl, fun H2 s2 => ⟨_, rfl, iteT ⟨_, rfl, _, rfl, _, rfl, Op.ge, a, b, rfl, rfl, fun H3 s3 => .inr ⟨_, rfl, q _ (s1.trans (s2.trans s3))⟩⟩⟩⟩⟩⟩
    · exact ⟨_, rfl, rfl, fun H1 s1 => ⟨_, rfl, iteF ⟨_, rfl, rfl, fun H2 s2 => ⟨_, rfl, iteT ⟨_, rfl, _, rfl, _, rfl, Op.eq, a, b, rfl, rfl, fun H3 s3 => .inr ⟨_, rfl, q _ (s1.trans (s2.trans s3))⟩⟩⟩⟩⟩⟩
    · exact ⟨_, rfl, rfl, fun H1 s1 => ⟨_, rfl, iteF ⟨_, rfl, rfl, fun H2 s2 => ⟨_, rfl, iteT ⟨_, rfl, _, rfl, _, rfl, Op.ne, a, b, rfl, rfl, fun H3 s3 => .inr ⟨_, rfl, q _ (s1.trans (s2.trans s3))⟩⟩⟩⟩⟩⟩
    · exact ⟨_, rfl, rfl, fun H1 s1 => ⟨_, rfl, iteF ⟨_, rfl, rfl, fun H2 s2 => ⟨_, rfl, iteF ⟨_, rfl, rfl, fun H3 s3 => ⟨_, rfl, iteF ⟨_, rfl, rfl, _, rfl, iteF ⟨_, rfl, rfl, _, rfl, iteF ⟨_, rfl, rfl, _, rfl, iteF ⟨_, rfl, rfl, _, rfl, iteT ⟨_, rfl, _, rfl, _, rfl, q _ (s1.trans (s2.trans s3))⟩⟩⟩⟩⟩⟩⟩⟩⟩⟩⟩
    · exact ⟨_, rfl, rfl, fun H1 s1 => ⟨_, rfl, iteF ⟨_, rfl, rfl, fun H2 s2 => ⟨_, rfl, iteF ⟨_, rfl, rfl, fun H3 s3 => ⟨_, rfl, iteF ⟨_, rfl, rfl, _, rfl, iteF ⟨_, rfl, rfl, _, rfl, iteF ⟨_, rfl, rfl, _, rfl, iteF ⟨_, rfl, rfl, _, rfl, iteF ⟨_, rfl, _, rfl, _, _, rfl, rfl, _, rfl, q _ (s1.trans (s2.trans s3))⟩⟩⟩⟩⟩⟩⟩⟩⟩⟩⟩
theorem g_wrap (T : Txt K mg) (g_wrapped : Gives P w K mg base CX0 1 "wrapped" spWrapped) (g_is_integer : Gives P w K mg base CX0 1 "is_integer" spIsInt) : Gives P w K mg base CX0 2 "wrap" spWrap := by
  refine gives_fun T.d_wrap sc_wrap (fun _ _ _ _ _ _ us hl => match us, hl with | [_], _ => rfl) (fun vs H Q E h => ?_) (fun f cdv A outer s H vs Q E hr h => ?_)
  · obtain ⟨i, rfl, _⟩ := h
    rfl
  · obtain ⟨i, rfl, q⟩ := h
    refine ⟨_, (pss_cons (ps_if (pt_not (pt_val (pe_own g_is_integer (hr.mono (by decide)) (by rfl) pass0 (pa_cons (pv 0) pa_nil)))) (pss_one ps_never) pss_nil)
      (pss_one (ps_ret (pe_own g_wrapped (hr.mono (by decide)) (by rfl) pass0 (pa_cons (pv 0) pa_nil))))), ?_⟩
    exact ⟨_, rfl, i, rfl, _, rfl, iteF' rfl ⟨_, rfl, i, rfl, q⟩⟩
theorem g_operateB (T : Txt K mg) (g_is_word : Gives P w K mg base CX0 2 "is_word" spIsWord) (g_result_of : Gives P w K mg base CX0 3 "result_of" spResult) :
    Gives P w K mg base CX0 4 "operate" (fun vs H Q E => ∃ ws rest, vs = ws ++ rest ∧ ws.length = ["operation"].length ∧ rest.length ≤ sizeLine ∧ ∀ p, H p = Option.none → spOperateB (ws ++ [V.ref p]) (upd H p (.tup rest)) Q E) := by
  refine gives_star (ps := ["operation"]) (pv := "words") T.d_operate sc_operate (fun kV doc pm an cdv ct => StX.bind_star1 (B := fun l => bindArgs (PySem.W.fnOf "operate" "operate" (defArgs s_operate) (defBody s_operate) (defScope s_operate) .none kV doc pm an cdv ct) ⟨l, []⟩) (fun a => rfl) (fun a r rs => rfl)) (fun f cdv A outer s H vs Q E hr h => ?_)
  obtain ⟨o, p, xs, rfl, hp, h⟩ := h
  refine ⟨_, (pss_cons (ps_if (PW.pt (pw_or (pt_not (pt_val (pe_callB call_isi (by rfl) T.n_isinstance (by decide +kernel) (pa_cons (pv 0) (pa_cons (pe_bltn (v := .ty "str") (by rfl) T.n_str (by decide +kernel) rfl) pa_nil))))) (pw_or1 (PW.pt (pw_and (pt_cmpR op_notIn_seq (pv 0) (pe_gt (by rfl) T.c_SINGLE) (by rfl)) (pw_and1 (pt_cmpR op_notIn_seq (pv 0) (pe_gt (by rfl) T.c_DOUBLE) (by rfl)))))))) (pss_one ps_never) pss_nil)
      (pss_cons (ps_if (pt_cmpR op_ne (pe_callB call_len_seq (by rfl) T.n_len (by decide +kernel) (pa_cons (pv 1) pa_nil)) (pe_ifExp (pt_cmpR op_in_seq (pv 0) (pe_gt (by rfl) T.c_SINGLE) (by rfl)) pe_int pe_int) (nomark _)) (pss_one ps_never) pss_nil)
      (pss_cons (ps_for PassesOwn.never rfl (pi_enumT (by rfl) T.n_enumerate (pa_cons (pv 1) pa_nil)) (pg_tup (by rfl) (pgs_cons (pg_name (i := 2) sc_operate.nd rfl (Or.inl rfl)) (pgs_cons (pg_name (i := 3) sc_operate.nd rfl (Or.inl rfl)) pgs_nil))) (pss_one (ps_if (pt_not (pt_val (pe_own g_is_word (hr.mono (by decide)) (by rfl) pass0 (pa_cons (pv 3) pa_nil)))) (pss_one ps_never) pss_nil)))
      (pss_one (ps_ret (pe_own g_result_of (hr.mono (by decide)) (by rfl) pass0 (pa_cons (pv 0) (pa_cons (pe_ix ix_tup (pv 1) pe_int (fun _ _ => rfl)) (pa_cons (pe_ix ix_tup (pv 1) (pe_negc (-1) (by decide)) (fun _ _ => rfl)) pa_nil))))))))), ?_⟩
  have sT : ∀ H', Same H H' → SqT K H' p xs := fun H' s' => .inl (.inl (s' _ _ hp))
  have loop : ∀ (D : Ends) (z : Option V), (∀ x ∈ xs, ∃ i, x = V.int i ∧ Wd i) → (∀ H' y2 y3, Same H H' → D.nx [some (.str o.name), some (.ref p), y2, y3] H') →
      (tFor (iEnumT K (tCons (tVar 1) tNil)) (gTup K 2 (gCons (gName 2) (gCons (gName 3) gNil))) (tIfS (tNot (tB (tOwn spIsWord E0 (tCons (tVar 3) tNil)))) tNever tNext)) D [some (.str o.name), some (.ref p), none, none] H := by
    intro D _ hx hD
    refine ⟨_, rfl, p, xs, rfl, sT _ (Same.refl _), ?_⟩
    refine for_enumT (xs := xs) (fun i σ H' => Same H H' ∧ ∃ y2 y3, σ = [some (.str o.name), some (.ref p), y2, y3]) ⟨Same.refl _, none, none, rfl⟩ (fun i σ H' _ h => sT _ h.1) (fun i x σ H' U hxi hP hU => ?_) (fun σ H' hP => ?_)
    · obtain ⟨sm, y2, y3, rfl⟩ := hP
      obtain ⟨n, rfl, wn⟩ := hx x (List.mem_of_getElem? hxi)
      refine ⟨U, _, rfl, .inl (.inl upd_same), rfl, _, _, rfl, _, _, rfl, rfl, ?_⟩
      refine ⟨_, rfl, n, rfl, _, rfl, iteF' (by rw [decide_eq_true wn]; rfl) ?_⟩
      exact ⟨L2.Same.trans sm (same_upd hU), _, _, rfl⟩
    · obtain ⟨sm, y2, y3, rfl⟩ := hP
      exact hD H' y2 y3 sm
  rcases h with ⟨ho, a, b, rfl, ha, hb, q⟩ | ⟨ho, a, rfl, ha, q⟩
  · have fin : ∀ H' y2 y3, Same H H' → (tRet (tOwn spResult E0 (tCons (tVar 0) (tCons (tOp (rIxT K) (tVar 1) (tC (.int 0))) (tCons (tOp (rIxT K) (tVar 1) (tC (.int (-1)))) tNil))))) { nx := fun _ H' => Q .non H', rt := Q } [some (.str o.name), some (.ref p), y2, y3] H' := by
      intro H' y2 y3 sm
      exact ⟨_, rfl, _, rfl, p, _, 0, .int a, rfl, rfl, sT _ sm, rfl, _, rfl, p, _, -1, .int b, rfl, rfl, sT _ sm, rfl, o, a, b, rfl, ha, hb, fun H2 s2 => q H2 (sm.trans s2)⟩
    cases o <;> first | exact absurd ho (by decide) | skip
    all_goals
      refine ⟨_, rfl, _, _, _, _, true, rfl, .ty "str", .base (.str _), kit_ty (by decide +kernel), true, rfl, iteF' rfl ⟨_, rfl, fun u hu => ⟨u, _, rfl, .inr (hu _), rfl, rfl, _, rfl, iteT' rfl ⟨_, rfl, fun u hu => ⟨u, _, rfl, .inr (hu _), rfl, rfl, _, rfl, iteF' rfl ?_⟩⟩⟩⟩⟩
      refine ⟨_, rfl, p, _, rfl, .inr (sT _ (Same.refl _)), _, rfl, fun u hu => ⟨u, _, rfl, .inr (hu _), rfl, rfl, _, rfl, iteF' rfl ⟨rfl, _, rfl, iteF' rfl ?_⟩⟩⟩
      exact loop _ none (fun x hx => (List.mem_cons.mp hx).elim (fun e => ⟨a, e, ha⟩) fun e => ⟨b, List.mem_singleton.mp e, hb⟩) fin
  · have fin : ∀ H' y2 y3, Same H H' → (tRet (tOwn spResult E0 (tCons (tVar 0) (tCons (tOp (rIxT K) (tVar 1) (tC (.int 0))) (tCons (tOp (rIxT K) (tVar 1) (tC (.int (-1)))) tNil))))) { nx := fun _ H' => Q .non H', rt := Q } [some (.str o.name), some (.ref p), y2, y3] H' := by
      intro H' y2 y3 sm
      exact ⟨_, rfl, _, rfl, p, _, 0, .int a, rfl, rfl, sT _ sm, rfl, _, rfl, p, _, -1, .int a, rfl, rfl, sT _ sm, rfl, o, a, a, rfl, ha, ha, fun H2 s2 => q H2 (sm.trans s2)⟩
    cases o <;> first | exact absurd ho (by decide) | skip
    all_goals
      refine ⟨_, rfl, _, _, _, _, true, rfl, .ty "str", .base (.str _), kit_ty (by decide +kernel), true, rfl, iteF' rfl ⟨_, rfl, fun u hu => ⟨u, _, rfl, .inr (hu _), rfl, rfl, _, rfl, iteF' rfl (iteF' rfl ?_)⟩⟩⟩
      refine ⟨_, rfl, p, _, rfl, .inr (sT _ (Same.refl _)), _, rfl, fun u hu => ⟨u, _, rfl, .inr (hu _), rfl, rfl, _, rfl, iteT' rfl ⟨rfl, _, rfl, iteF' rfl ?_⟩⟩⟩
      exact loop _ none (fun x hx => ⟨a, List.mem_singleton.mp hx, ha⟩) fin
theorem g_operate (T : Txt K mg) (g_is_word : Gives P w K mg base CX0 2 "is_word" spIsWord) (g_result_of : Gives P w K mg base CX0 3 "result_of" spResult) : Gives P w K mg base CX0 4 "operate" spOperate :=
  (g_operateB T g_is_word g_result_of).imp fun vs H Q E h => by
    rcases h with ⟨o, a, b, rfl, ho, ha, hb, q⟩ | ⟨o, a, rfl, ho, ha, q⟩
    · exact ⟨[.str o.name], [.int a, .int b], rfl, rfl, by show 2 ≤ sizeLine; decide, fun p hp => ⟨o, p, _, rfl, upd_same, .inl ⟨ho, a, b, rfl, ha, hb, fun H' s' => q H' ((same_upd hp).trans s')⟩⟩⟩
    · exact ⟨[.str o.name], [.int a], rfl, rfl, by show 1 ≤ sizeLine; decide, fun p hp => ⟨o, p, _, rfl, upd_same, .inr ⟨ho, a, rfl, ha, fun H' s' => q H' ((same_upd hp).trans s')⟩⟩⟩
theorem g_law_cell (T : Txt K mg)  : Gives P w K mg base CX0 1 "_law_cell" (spCell K) := by
  refine gives_fun T.d_law_cell sc_law_cell (fun _ _ _ _ _ _ us hl => match us, hl with | [_, _], _ => rfl) (fun vs H Q E h => ?_) (fun f cdv A outer s H vs Q E hr h => ?_)
  · obtain ⟨a, ns, k, rfl, _⟩ := h
    rfl
  · obtain ⟨a, ns, k, rfl, hS, hl, h0, h1, q⟩ := h
    refine ⟨_, (pss_cons (ps_if (pt_cmpR op_lt (pv 1) (pe_callB call_len_seq (by rfl) T.n_len (by decide +kernel) (pa_cons (pv 0) pa_nil)) (nomark _)) (pss_one (ps_ret (pe_ix ix_list (pv 0) (pv 1) (fun _ _ => rfl)))) pss_nil)
      (pss_cons (ps_set (i := 2) sc_law_cell.nd rfl (Or.inl rfl) (pe_op op_mod (pe_op op_mul pe_int (pe_op op_add (pe_op op_add (pe_op op_mul (pv 1) (pv 1)) (pe_op op_mul pe_int (pv 1))) pe_int)) pe_int))
      (pss_cons (ps_for PassesOwn.never rfl (pi_list (pe_slice sl_list (pv 0) po_none (po_some pe_int))) (pg_name (i := 3) sc_law_cell.nd rfl (Or.inl rfl)) (pss_one (ps_set (i := 2) sc_law_cell.nd rfl (Or.inl rfl) (pe_op op_mod (pe_op op_add (pe_op op_mul (pv 2) pe_int) (pv 3)) pe_int))))
      (pss_one (ps_ret (pv 2)))))), ?_⟩
    have hlen : (ns.map V.int).length = ns.length := List.length_map _
    refine ⟨_, rfl, _, rfl, a, _, rfl, .inl hS, _, _, rfl, rfl, _, rfl, ite2 (fun c => ?_) (fun c => ?_)⟩
    · have c1 : k < (((ns.map V.int).length : Nat) : Int) := of_decide_eq_true c
      rw [hlen] at c1
      obtain ⟨v, hv, _⟩ := at_ints (P := fun _ => True) ns (fun _ _ => trivial) h0 c1
      exact ⟨_, rfl, _, rfl, a, _, _, _, rfl, rfl, hS, hv, q _ _ (Same.refl _)⟩
    · refine ⟨_, rfl, _, rfl, _, _, rfl, rfl, .inl ⟨by omega, by omega⟩, _, rfl, _, _, rfl, rfl, .inl ⟨by decide, by decide⟩, _, _, rfl, rfl, _, _, rfl, rfl, _, _, rfl, rfl, .inl ⟨by decide, by decide⟩, _, _, rfl, rfl, (by show (0 : Int) < 2147483269; decide), ?_⟩
      refine ⟨_, rfl, 3, rfl, a, _, rfl, hS, fun c nc => ?_⟩
      have hc : SqL K (upd H c (.lst (cutV (ns.map V.int) none (some 3)))) c ((ns.take 3).map V.int) := by
        refine .inl (.inl ?_)
        rw [upd_same]
        have e : cutV (ns.map V.int) none (some 3) = (ns.take 3).map V.int := by
          unfold cutV
          rw [HT.sIx_none, show HT.sIx (ns.map V.int).length (ns.map V.int).length (some 3) = min 3 (ns.map V.int).length from HT.sIx_nat _ _ 3]
          rw [List.drop_zero, List.map_take, Nat.sub_zero]
          exact List.take_eq_take_min.symm
        rw [e]
      refine ⟨c, rfl, ⟨_, hc⟩, for_list (xs := (ns.take 3).map V.int) (fun i σ H' => H' = upd H c (.lst (cutV (ns.map V.int) none (some 3))) ∧ ∃ (x : Int) (y : Option V), σ = [some (.ref a), some (.int k), some (.int x), y] ∧ 0 ≤ x ∧ x < 2147483269) ⟨rfl, _, _, rfl, Int.emod_nonneg _ (by decide), Int.emod_lt_of_pos _ (by decide)⟩ (fun i σ H' _ h => by rw [h.1]; exact hc) (fun i x σ H' hx hP => ?_) (fun σ H' hP => ?_)⟩
      · obtain ⟨rfl, s, y, rfl, b0, b1⟩ := hP
        have hx2 : ∃ n : Int, x = .int n := by
          rw [List.getElem?_map] at hx
          cases e : (ns.take 3)[i]? with
          | none => rw [e] at hx; cases hx
          | some n => rw [e] at hx; exact ⟨n, (Option.some.inj hx).symm⟩
        obtain ⟨n, rfl⟩ := hx2
        refine ⟨_, rfl, _, _, rfl, rfl, .inr ⟨by decide, by decide⟩, _, rfl, _, _, rfl, rfl, _, _, rfl, rfl, (by show (0 : Int) < 2147483269; decide), ?_⟩
        exact ⟨rfl, _, _, rfl, Int.emod_nonneg _ (by decide), Int.emod_lt_of_pos _ (by decide)⟩
      · obtain ⟨rfl, s, y, rfl, b0, b1⟩ := hP
        exact ⟨_, rfl, q _ _ (same_upd nc)⟩
theorem g_law_pool (T : Txt K mg)  : Gives P w K mg base CX0 1 "_law_pool" spPool := by
  refine gives_fun T.d_law_pool sc_law_pool (fun _ _ _ _ _ _ us hl => match us, hl with | [_], _ => rfl) (fun vs H Q E h => ?_) (fun f cdv A outer s H vs Q E hr h => ?_)
  · obtain ⟨i, rfl, _⟩ := h
    rfl
  · obtain ⟨i, rfl, q⟩ := h
    refine ⟨_, (pss_cons (ps_set (i := 1) sc_law_pool.nd rfl (Or.inl rfl) (pe_ifExp (PW.pt (pw_or (pt_cmpR op_lt (pv 0) pe_int (nomark _)) (pw_or1 (pt_cmpR op_ge (pv 0) (pe_powc 1000000000000000000 ⟨by decide, by decide, by decide⟩ (by decide)) (nomark _))))) (pe_callB call_abs (by rfl) T.n_abs (by decide +kernel) (pa_cons (pv 0) pa_nil)) pe_int))
      (pss_one (ps_ret (pe_lst (pa_cons (pe_op op_mod (pv 0) pe_int) (pa_cons (pv 1) (pa_cons pe_int pa_nil))))))), ?_⟩
    have fin : ∀ d : Int, 0 ≤ d → (tRet (tLst (tCons (tOp (rI (fun _ j => 0 < j) fun i j => .int (i % j)) (tVar 0) (tC (.int 2147483269))) (tCons (tVar 1) (tCons (tC (.int 0)) tNil))))) { nx := fun _ H' => Q .non H', rt := Q } [some (.int i), some (.int d)] H := by
      intro d hd
      refine ⟨_, rfl, _, _, rfl, rfl, (by show (0 : Int) < 2147483269; decide), _, rfl, (by show 3 ≤ sizeLine; decide), fun p np => ?_⟩
      exact q _ p (same_upd np) np ⟨_, _, _, upd_same, Int.emod_nonneg _ (by decide), Int.emod_lt_of_pos _ (by decide), hd⟩
    refine ⟨_, rfl, _, _, rfl, rfl, _, rfl, ite2 (fun c => ?_) (fun c => ?_)⟩
    · refine iteT' rfl ?_
      exact ⟨_, rfl, _, rfl, fin _ (by split <;> omega)⟩
    · refine ⟨_, rfl, _, _, rfl, rfl, _, rfl, ite2 (fun c => ?_) (fun c => ?_)⟩
      · exact ⟨_, rfl, _, rfl, fin _ (by split <;> omega)⟩
      · exact fin 0 (Int.le_refl 0)
theorem g_law_draw (T : Txt K mg)  : Gives P w K mg base CX0 1 "_law_draw" spDraw := by
  refine gives_fun T.d_law_draw sc_law_draw (fun _ _ _ _ _ _ us hl => match us, hl with | [_, _], _ => rfl) (fun vs H Q E h => ?_) (fun f cdv A outer s H vs Q E hr h => ?_)
  · obtain ⟨p, m, rfl, _⟩ := h
    rfl
  · obtain ⟨p, m, rfl, hP, hm, hm2, q⟩ := h
    refine ⟨_, (pss_cons (ps_asg (pe_op op_add (pe_ix ix_list (pv 0) pe_int (fun _ _ => rfl)) pe_int) (pg_sub (pv 0) pe_int set_list))
      (pss_cons (ps_set (i := 2) sc_law_draw.nd rfl (Or.inl rfl) (pe_ix ix_list (pv 0) pe_int (fun _ _ => rfl)))
      (pss_cons (ps_asg (pe_op op_mod (pe_op op_add (pe_op op_mul (pv 2) (pe_op op_add (pe_op op_mod (pv 2) pe_int) pe_int)) (pe_op op_mul pe_int (pe_ix ix_list (pv 0) pe_int (fun _ _ => rfl)))) pe_int) (pg_sub (pv 0) pe_int set_list))
      (pss_cons (ps_if (pt_cmpR op_gt (pe_ix ix_list (pv 0) pe_int (fun _ _ => rfl)) pe_int (nomark _)) (pss_cons (ps_asg (pe_callB call_divmodW (by rfl) T.n_divmod (by decide +kernel) (pa_cons (pe_ix ix_list (pv 0) pe_int (fun _ _ => rfl)) (pa_cons (pv 1) pa_nil))) (pg_tup (by rfl) (pgs_cons (pg_sub (pv 0) pe_int set_list) (pgs_cons (pg_name (i := 3) sc_law_draw.nd rfl (Or.inl rfl)) pgs_nil))))
      (pss_one (ps_ret (pv 3)))) pss_nil)
      (pss_one (ps_ret (pe_op op_mod (pe_op op_fdiv (pe_ix ix_list (pv 0) pe_int (fun _ _ => rfl)) pe_int) (pv 1)))))))), ?_⟩
    obtain ⟨s0, d, n, e0, hs0, hs1, hd⟩ := hP
    refine ⟨_, rfl, p, _, 2, .int n, rfl, rfl, .inl (.inl e0), rfl, _, _, rfl, rfl, _, rfl, p, _, 2, 2, rfl, rfl, e0, rfl, ?_⟩
    refine ⟨_, rfl, p, _, 0, .int s0, rfl, rfl, .inl (.inl upd_same), rfl, ?_⟩
    refine ⟨_, rfl, _, rfl, _, _, rfl, rfl, (by show (0 : Int) < 50033; decide), _, _, rfl, rfl, _, _, rfl, rfl, .inl ⟨by omega, by omega⟩, _, rfl, p, _, 2, .int (n + 1), rfl, rfl, .inl (.inl upd_same), rfl, _, _, rfl, rfl, .inl ⟨by decide, by decide⟩, _, _, rfl, rfl, _, _, rfl, rfl, (by show (0 : Int) < 2147483269; decide), _, rfl, p, _, 0, 0, rfl, rfl, upd_same, rfl, ?_⟩
    have hn0 : 0 ≤ (s0 * (s0 % 50033 + 30011) + 80039 * (n + 1)) % 2147483269 := Int.emod_nonneg _ (by decide)
    have hn1 : (s0 * (s0 % 50033 + 30011) + 80039 * (n + 1)) % 2147483269 < 2147483269 := Int.emod_lt_of_pos _ (by decide)
    generalize hz : (s0 * (s0 % 50033 + 30011) + 80039 * (n + 1)) % 2147483269 = z at hn0 hn1
    refine ⟨_, rfl, p, _, 1, .int d, rfl, rfl, .inl (.inl upd_same), rfl, _, _, rfl, rfl, _, rfl, ite2 (fun c => ?_) (fun c => ?_)⟩
    · refine ⟨_, rfl, p, _, 1, .int d, rfl, rfl, .inl (.inl upd_same), rfl, _, rfl, _, _, rfl, divp_small hm hm2, fun t nt => ?_⟩
      have npt : p ≠ t := by
        intro e
        rw [← e, upd_same] at nt
        cases nt
      refine ⟨t, _, rfl, .inl (.inl upd_same), rfl, _, _, rfl, _, rfl, p, _, 1, 1, rfl, rfl, (by rw [upd_ne npt]; exact upd_same), rfl, _, _, rfl, rfl, ?_⟩
      refine ⟨_, rfl, q _ _ (SameBut.upd (SameBut.new (SameBut.upd (SameBut.upd (SameBut.refl _ _))) nt)) ⟨_, _, _, upd_same, by rw [hz]; exact hn0, by rw [hz]; exact hn1, Int.ediv_nonneg hd (by omega)⟩ (Int.emod_nonneg _ (by omega)) (Int.emod_lt_of_pos _ hm)⟩
    · refine ⟨_, rfl, p, _, 0, .int z, rfl, rfl, .inl (.inl upd_same), (by rw [← hz]; rfl), _, _, rfl, rfl, ⟨by decide, by decide⟩, _, rfl, _, _, rfl, rfl, hm, ?_⟩
      exact q _ _ (SameBut.upd (SameBut.upd (SameBut.refl _ _))) ⟨_, _, _, upd_same, by rw [hz]; exact hn0, by rw [hz]; exact hn1, hd⟩ (Int.emod_nonneg _ (by omega)) (Int.emod_lt_of_pos _ hm)
theorem g_law_figure (T : Txt K mg) (g_law_draw : Gives P w K mg base CX0 1 "_law_draw" spDraw) : Gives P w K mg base CX0 2 "_law_figure" spFigure := by
  refine gives_fun T.d_law_figure sc_law_figure (fun _ _ _ _ _ _ us hl => match us, hl with | [_], _ => rfl) (fun vs H Q E h => ?_) (fun f cdv A outer s H vs Q E hr h => ?_)
  · obtain ⟨p, rfl, _⟩ := h
    rfl
  · obtain ⟨p, rfl, hP, q⟩ := h
    refine ⟨_, (pss_cons (ps_set (i := 1) sc_law_figure.nd rfl (Or.inl rfl) (pe_lst (pa_cons pe_int (pa_cons pe_int (pa_cons (pe_op op_sub pe_int pe_int) (pa_cons pe_int (pa_cons (pe_op op_sub (pe_powc 2147483648 ⟨by decide, by decide, by decide⟩ (by decide)) pe_int) (pa_cons (pe_op op_sub pe_int (pe_powc 2147483648 ⟨by decide, by decide, by decide⟩ (by decide))) (pa_cons pe_int (pa_cons (pe_op op_sub (pe_own g_law_draw (hr.mono (by decide)) (by rfl) pass0 (pa_cons (pv 0) (pa_cons pe_int pa_nil))) pe_int) pa_nil))))))))))
      (pss_one (ps_ret (pe_ix ix_list (pe_op op_cat (pv 1) (pe_lst (pa_cons (pe_op op_sub (pe_own g_law_draw (hr.mono (by decide)) (by rfl) pass0 (pa_cons (pv 0) (pa_cons (pe_powc 4294967296 ⟨by decide, by decide, by decide⟩ (by decide)) pa_nil))) (pe_powc 2147483648 ⟨by decide, by decide, by decide⟩ (by decide))) pa_nil))) (pe_own g_law_draw (hr.mono (by decide)) (by rfl) pass0 (pa_cons (pv 0) (pa_cons pe_int pa_nil))) (fun _ _ => rfl))))), ?_⟩
    refine ⟨_, _, rfl, rfl, _, _, rfl, rfl, _, _, rfl, rfl, _, rfl, p, 12, rfl, hP, by decide, by decide, fun H1 r1 s1 P1 a1 b1 => ?_⟩
    refine ⟨_, _, rfl, rfl, (by show 8 ≤ sizeLine; decide), fun l nl => ?_⟩
    refine ⟨_, rfl, _, rfl, p, 4294967296, rfl, P1.same (same_upd nl), by decide, by decide, fun H2 r2 s2 P2 a2 b2 => ?_⟩
    have npl : p ≠ l := P1.ne nl
    have hl2 : H2 l = some (.lst _) := s2.at upd_same npl.symm
    refine ⟨_, _, rfl, rfl, (by show 1 ≤ sizeLine; decide), fun l2 nl2 => ?_⟩
    have nl12 : l ≠ l2 := ne_of_none hl2 nl2
    refine ⟨l, l2, _, _, rfl, rfl, (by rw [upd_ne nl12]; exact hl2), upd_same, (by show 9 ≤ sizeLine; decide), fun l3 nl3 => ?_⟩
    have np2 : p ≠ l2 := P2.ne nl2
    have P3 := P2.same (same_upd (o := .lst [.int (r2 - 2147483648)]) nl2)
    refine ⟨_, rfl, p, 9, rfl, P3.same (same_upd nl3), by decide, by decide, fun H4 r4 s4 P4 a4 b4 => ?_⟩
    have np3 : p ≠ l3 := P3.ne nl3
    obtain ⟨v, hv, wv⟩ := at_ints (P := Wd) [0, 1, 0 - 1, 2, 2147483648 - 1, 0 - 2147483648, 32, r1 - 3, r2 - 2147483648] (by
      intro x hx
      simp only [List.mem_cons, List.not_mem_nil, or_false] at hx
      unfold Wd
      rcases hx with e | e | e | e | e | e | e | e | e <;> omega) a4 b4
    refine ⟨l3, _, r4, .int v, rfl, rfl, .inl (.inl (s4.at upd_same np3.symm)), hv, ?_⟩
    exact q _ _ (((((SameBut.trans s1 (.of (same_upd nl))).trans s2).trans (.of (same_upd nl2))).trans (.of (same_upd nl3))).trans s4) P4 wv
theorem g_law_fit (T : Txt K mg)  : Gives P w K mg base CX0 1 "_law_fit" spFit := by
  refine gives_fun T.d_law_fit sc_law_fit (fun _ _ _ _ _ _ us hl => match us, hl with | [_], _ => rfl) (fun vs H Q E h => ?_) (fun f cdv A outer s H vs Q E hr h => ?_)
  · obtain ⟨i, rfl, _⟩ := h
    rfl
  · obtain ⟨i, rfl, q⟩ := h
    refine ⟨_, (pss_one (ps_ret (pe_op op_sub (pe_op op_mod (pe_op op_add (pv 0) (pe_powc 2147483648 ⟨by decide, by decide, by decide⟩ (by decide))) (pe_powc 4294967296 ⟨by decide, by decide, by decide⟩ (by decide))) (pe_powc 2147483648 ⟨by decide, by decide, by decide⟩ (by decide))))), ?_⟩
    exact ⟨_, rfl, _, _, rfl, rfl, _, _, rfl, rfl, (by show (0 : Int) < 4294967296; decide), _, _, rfl, rfl, int_cast (fit_eq i) q⟩
theorem g_law_split (T : Txt K mg)  : Gives P w K mg base CX0 1 "_law_split" spQuot := by
  refine gives_fun T.d_law_split sc_law_split (fun _ _ _ _ _ _ us hl => match us, hl with | [_, _], _ => rfl) (fun vs H Q E h => ?_) (fun f cdv A outer s H vs Q E hr h => ?_)
  · obtain ⟨i, j, rfl, _⟩ := h
    rfl
  · obtain ⟨i, j, rfl, h0, hj, q⟩ := h
    refine ⟨_, (pss_cons (ps_set (i := 2) sc_law_split.nd rfl (Or.inl rfl) (pe_op op_fdivW (pe_callB call_abs (by rfl) T.n_abs (by decide +kernel) (pa_cons (pv 0) pa_nil)) (pe_callB call_abs (by rfl) T.n_abs (by decide +kernel) (pa_cons (pv 1) pa_nil))))
      (pss_one (ps_ret (pe_ifExp (pt_cmpR op_eq (pe_cmpR op_lt (pv 0) pe_int (nomark _)) (pe_cmpR op_lt (pv 1) pe_int (nomark _)) (nomark _)) (pv 2) (pe_op op_sub pe_int (pv 2)))))), ?_⟩
    have hb : CDivW (ab i) (ab j) := wide_div (b := 64) (by unfold ab; split <;> omega) (by unfold ab Wd at *; split <;> omega) (by decide) (by decide)
    refine ⟨_, rfl, _, rfl, _, rfl, _, rfl, _, _, rfl, rfl, hb, ?_⟩
    refine ⟨_, rfl, _, _, rfl, rfl, _, rfl, _, _, rfl, rfl, rfl, _, rfl, ?_⟩
    unfold quo at q
    refine ite2 (fun c => ?_) (fun c => ?_)
    · have c1 : decide (i < 0) = decide (j < 0) := V.bl.inj (of_decide_eq_true c)
      rw [if_pos c1] at q
      exact ⟨_, rfl, q⟩
    · have c1 : ¬ decide (i < 0) = decide (j < 0) := fun z => c (decide_eq_true (congrArg V.bl z))
      rw [if_neg c1] at q
      exact ⟨_, rfl, _, _, rfl, rfl, int_cast (Int.zero_sub _) q⟩
theorem g_law_do (T : Txt K mg) (g_law_fit : Gives P w K mg base CX0 1 "_law_fit" spFit) (g_law_split : Gives P w K mg base CX0 1 "_law_split" spQuot) : Gives P w K mg base CX0 2 "_law_do" spDo := by
  refine gives_fun T.d_law_do sc_law_do (fun _ _ _ _ _ _ us hl => match us, hl with | [_, _, _], _ => rfl) (fun vs H Q E h => ?_) (fun f cdv A outer s H vs Q E hr h => ?_)
  · obtain ⟨o, a, b, rfl, _⟩ := h
    rfl
  · obtain ⟨o, a, b, rfl, ha, hb, q⟩ := h
    refine ⟨_, (pss_cons (ps_if (pt_inC (i := 0) rfl (by first | exact Or.inl rfl | exact Or.inr (Or.inl rfl) | exact Or.inr (Or.inr rfl)) (pc_cons (pc_cons pc_nil))) (pss_cons (ps_if (pt_cmpR op_eq (pv 2) pe_int (nomark _)) (pss_one (ps_ret pe_non)) pss_nil)
      (pss_one (ps_ret (pe_own g_law_fit (hr.mono (by decide)) (by rfl) pass0 (pa_cons (pe_ifExp (pt_cmpR op_eq (pv 0) pe_str (nomark _)) (pe_own g_law_split (hr.mono (by decide)) (by rfl) pass0 (pa_cons (pv 1) (pa_cons (pv 2) pa_nil))) (pe_op op_sub (pv 1) (pe_op op_mul (pv 2) (pe_own g_law_split (hr.mono (by decide)) (by rfl) pass0 (pa_cons (pv 1) (pa_cons (pv 2) pa_nil)))))) pa_nil))))) pss_nil)
      (pss_cons (ps_if (pt_inC (i := 0) rfl (by first | exact Or.inl rfl | exact Or.inr (Or.inl rfl) | exact Or.inr (Or.inr rfl)) (pc_cons (pc_cons (pc_cons (pc_cons (pc_cons (pc_cons pc_nil))))))) (pss_one (ps_ret (pe_callTy call_int1 (by rfl) T.n_int (by decide +kernel) (pa_cons (pe_ix ix_list (pe_lst (pa_cons (pe_cmpR op_lt (pv 1) (pv 2) (nomark _)) (pa_cons (pe_cmpR op_le (pv 1) (pv 2) (nomark _)) (pa_cons (pe_cmpR op_gt (pv 1) (pv 2) (nomark _)) (pa_cons (pe_cmpR op_ge (pv 1) (pv 2) (nomark _)) (pa_cons (pe_cmpR op_eq (pv 1) (pv 2) (nomark _)) (pa_cons (pe_cmpR op_ne (pv 1) (pv 2) (nomark _)) pa_nil))))))) (pe_bm PySem.F.plainAttrs_list PySem.F.slot_list_index PySem.F.type_list_index mt_index (pe_lst (pa_cons pe_str (pa_cons pe_str (pa_cons pe_str (pa_cons pe_str (pa_cons pe_str (pa_cons pe_str pa_nil))))))) (pa_cons (pv 0) pa_nil)) (fun _ _ => rfl)) pa_nil)))) pss_nil)
      (pss_cons (ps_par (i := 3) (j := 4) (by rfl) sc_law_do.nd rfl rfl (by decide) rfl rfl (pa_cons (pe_op op_mod (pv 1) (pe_powc 4294967296 ⟨by decide, by decide, by decide⟩ (by decide))) (pa_cons (pe_op op_mod (pv 2) (pe_powc 4294967296 ⟨by decide, by decide, by decide⟩ (by decide))) pa_nil)) (by rfl))
      (pss_cons (ps_if (pt_inC (i := 0) rfl (by first | exact Or.inl rfl | exact Or.inr (Or.inl rfl) | exact Or.inr (Or.inr rfl)) (pc_cons (pc_cons (pc_cons pc_nil)))) (pss_one (ps_ret (pe_own g_law_fit (hr.mono (by decide)) (by rfl) pass0 (pa_cons (pe_ix ix_list (pe_lst (pa_cons (pe_op op_and (pv 3) (pv 4)) (pa_cons (pe_op op_or (pv 3) (pv 4)) (pa_cons (pe_op op_xor (pv 3) (pv 4)) pa_nil)))) (pe_bm PySem.F.plainAttrs_list PySem.F.slot_list_index PySem.F.type_list_index mt_index (pe_lst (pa_cons pe_str (pa_cons pe_str (pa_cons pe_str pa_nil)))) (pa_cons (pv 0) pa_nil)) (fun _ _ => rfl)) pa_nil)))) pss_nil)
      (pss_cons (ps_if (pt_inC (i := 0) rfl (by first | exact Or.inl rfl | exact Or.inr (Or.inl rfl) | exact Or.inr (Or.inr rfl)) (pc_cons (pc_cons pc_nil))) (pss_one (ps_ret (pe_own g_law_fit (hr.mono (by decide)) (by rfl) pass0 (pa_cons (pe_ifExp (pt_cmpR op_eq (pv 0) pe_str (nomark _)) (pe_op op_shl (pv 3) (pe_op op_mod (pv 4) pe_int)) (pe_op op_shr (pv 1) (pe_op op_mod (pv 4) pe_int))) pa_nil)))) pss_nil)
      (pss_one (ps_ret (pe_own g_law_fit (hr.mono (by decide)) (by rfl) pass0 (pa_cons (pe_ix ix_list (pe_lst (pa_cons (pe_op op_add (pv 1) (pv 2)) (pa_cons (pe_op op_sub (pv 1) (pv 2)) (pa_cons (pe_op op_mul (pv 1) (pv 2)) (pa_cons (pe_op op_sub pe_int (pv 1)) (pa_cons (pe_op op_sub (pe_op op_sub pe_int (pv 1)) pe_int) pa_nil)))))) (pe_bm PySem.F.plainAttrs_list PySem.F.slot_list_index PySem.F.type_list_index mt_index (pe_lst (pa_cons pe_str (pa_cons pe_str (pa_cons pe_str (pa_cons pe_str (pa_cons pe_str pa_nil)))))) (pa_cons (pv 0) pa_nil)) (fun _ _ => rfl)) pa_nil))))))))), ?_⟩
    have hm : CMul b (quo a b) := .inl ⟨by unfold Wd at hb; omega, by unfold Wd at hb; omega⟩
    have hm2 : CMul a b := .inl ⟨by unfold Wd at ha; omega, by unfold Wd at ha; omega⟩
    cases o
    · refine ⟨_, rfl, rfl, fun H1 s1 => ⟨_, rfl, iteF ⟨_, rfl, rfl, fun H2 s2 => ⟨_, rfl, iteF ⟨_, rfl, _, _, rfl, rfl, (by show (0 : Int) < 4294967296; decide), _, rfl, _, _, rfl, rfl, (by show (0 : Int) < 4294967296; decide), _, _, rfl, ⟨_, rfl, rfl, fun H3 s3 => ⟨_, rfl, iteF ⟨_, rfl, rfl, fun H4 s4 => ⟨_, rfl, iteF ⟨_, rfl, _, rfl, _, _, rfl, rfl, _, rfl, _, rfl, _, _, rfl, rfl, _, rfl, _, rfl, _, _, rfl, rfl, hm2, _, rfl, _, _, rfl, rfl, _, rfl, _, _, rfl, rfl, _, _, rfl, rfl, (by show 5 ≤ sizeLine; decide), fun l1 n1 => ?_⟩⟩⟩⟩⟩⟩⟩⟩⟩⟩
      refine ⟨(by show 5 ≤ sizeLine; decide), fun l2 n2 => ⟨.inl ⟨rfl, _, .inl (.inl upd_same)⟩, _, rfl, l2, _, _, 0, _, rfl, rfl, .inl (.inl upd_same), rfl, rfl, rfl, rfl, (no_before rfl), ?_⟩⟩
      have e1 := (same_upd (o := .lst [.str "add", .str "sub", .str "mul", .str "neg", .str "not"]) n2) _ _ (upd_same (H := H4) (a := l1) (o := .lst [.int (a + b), .int (a - b), .int (a * b), .int (0 - a), .int (0 - a - 1)]))
      exact ⟨l1, _, _, _, rfl, rfl, .inl (.inl e1), rfl, _, rfl, int_cast rfl (q _ (L2.Same.trans s1 (L2.Same.trans s2 (L2.Same.trans s3 (L2.Same.trans s4 (L2.Same.trans (same_upd n1) (same_upd n2)))))))⟩
    · refine ⟨_, rfl, rfl, fun H1 s1 => ⟨_, rfl, iteF ⟨_, rfl, rfl, fun H2 s2 => ⟨_, rfl, iteF ⟨_, rfl, _, _, rfl, rfl, (by show (0 : Int) < 4294967296; decide), _, rfl, _, _, rfl, rfl, (by show (0 : Int) < 4294967296; decide), _, _, rfl, ⟨_, rfl, rfl, fun H3 s3 => ⟨_, rfl, iteF ⟨_, rfl, rfl, fun H4 s4 => ⟨_, rfl, iteF ⟨_, rfl, _, rfl, _, _, rfl, rfl, _, rfl, _, rfl, _, _, rfl, rfl, _, rfl, _, rfl, _, _, rfl, rfl, hm2, _, rfl, _, _, rfl, rfl, _, rfl, _, _, rfl, rfl, _, _, rfl, rfl, (by show 5 ≤ sizeLine; decide), fun l1 n1 => ?_⟩⟩⟩⟩⟩⟩⟩⟩⟩⟩
      refine ⟨(by show 5 ≤ sizeLine; decide), fun l2 n2 => ⟨.inl ⟨rfl, _, .inl (.inl upd_same)⟩, _, rfl, l2, _, _, 1, _, rfl, rfl, .inl (.inl upd_same), rfl, rfl, rfl, rfl, (no_before rfl), ?_⟩⟩
      have e1 := (same_upd (o := .lst [.str "add", .str "sub", .str "mul", .str "neg", .str "not"]) n2) _ _ (upd_same (H := H4) (a := l1) (o := .lst [.int (a + b), .int (a - b), .int (a * b), .int (0 - a), .int (0 - a - 1)]))
      exact ⟨l1, _, _, _, rfl, rfl, .inl (.inl e1), rfl, _, rfl, int_cast rfl (q _ (L2.Same.trans s1 (L2.Same.trans s2 (L2.Same.trans s3 (L2.Same.trans s4 (L2.Same.trans (same_upd n1) (same_upd n2)))))))⟩
    · refine ⟨_, rfl, rfl, fun H1 s1 => ⟨_, rfl, iteF ⟨_, rfl, rfl, fun H2 s2 => ⟨_, rfl, iteF ⟨_, rfl, _, _, rfl, rfl, (by show (0 : Int) < 4294967296; decide), _, rfl, _, _, rfl, rfl, (by show (0 : Int) < 4294967296; decide), _, _, rfl, ⟨_, rfl, rfl, fun H3 s3 => ⟨_, rfl, iteF ⟨_, rfl, rfl, fun H4 s4 => ⟨_, rfl, iteF ⟨_, rfl, _, rfl, _, _, rfl, rfl, _, rfl, _, rfl, _, _, rfl, rfl, _, rfl, _, rfl, _, _, rfl, rfl, hm2, _, rfl, _, _, rfl, rfl, _, rfl, _, _, rfl, rfl, _, _, rfl, rfl, (by show 5 ≤ sizeLine; decide), fun l1 n1 => ?_⟩⟩⟩⟩⟩⟩⟩⟩⟩⟩
      refine ⟨(by show 5 ≤ sizeLine; decide), fun l2 n2 => ⟨.inl ⟨rfl, _, .inl (.inl upd_same)⟩, _, rfl, l2, _, _, 2, _, rfl, rfl, .inl (.inl upd_same), rfl, rfl, rfl, rfl, (no_before rfl), ?_⟩⟩
      have e1 := (same_upd (o := .lst [.str "add", .str "sub", .str "mul", .str "neg", .str "not"]) n2) _ _ (upd_same (H := H4) (a := l1) (o := .lst [.int (a + b), .int (a - b), .int (a * b), .int (0 - a), .int (0 - a - 1)]))
      exact ⟨l1, _, _, _, rfl, rfl, .inl (.inl e1), rfl, _, rfl, int_cast rfl (q _ (L2.Same.trans s1 (L2.Same.trans s2 (L2.Same.trans s3 (L2.Same.trans s4 (L2.Same.trans (same_upd n1) (same_upd n2)))))))⟩
    · refine ⟨_, rfl, rfl, fun H1 s1 => ⟨_, rfl, iteT ⟨_, rfl, rfl, _, rfl, ite2 (fun c => ?_) (fun c => ?_)⟩⟩⟩
      · have e : b = 0 := V.int.inj (of_decide_eq_true c)
        have q1 := q _ s1
        subst e
        exact q1
      · have e : b ≠ 0 := fun z => c (decide_eq_true (congrArg V.int z))
        have q1 := q _ s1
        rw [res_div e] at q1
        exact ⟨_, rfl, rfl, _, rfl, iteT ⟨_, rfl, _, rfl, _, _, rfl, e, hb, _, rfl, q1⟩⟩
    · refine ⟨_, rfl, rfl, fun H1 s1 => ⟨_, rfl, iteT ⟨_, rfl, rfl, _, rfl, ite2 (fun c => ?_) (fun c => ?_)⟩⟩⟩
      · have e : b = 0 := V.int.inj (of_decide_eq_true c)
        have q1 := q _ s1
        subst e
        exact q1
      · have e : b ≠ 0 := fun z => c (decide_eq_true (congrArg V.int z))
        have q1 := q _ s1
        rw [res_rem e] at q1
        exact ⟨_, rfl, rfl, _, rfl, iteF ⟨_, rfl, _, rfl, _, rfl, _, rfl, _, _, rfl, e, hb, _, _, rfl, rfl, hm, _, _, rfl, rfl, _, rfl, q1⟩⟩
    · refine ⟨_, rfl, rfl, fun H1 s1 => ⟨_, rfl, iteF ⟨_, rfl, rfl, fun H2 s2 => ⟨_, rfl, iteF ⟨_, rfl, _, _, rfl, rfl, (by show (0 : Int) < 4294967296; decide), _, rfl, _, _, rfl, rfl, (by show (0 : Int) < 4294967296; decide), _, _, rfl, ⟨_, rfl, rfl, fun H3 s3 => ⟨_, rfl, iteT ⟨_, rfl, _, rfl, _, _, rfl, rfl, _, rfl, _, rfl, _, _, rfl, rfl, _, rfl, _, rfl, _, _, rfl, rfl, (by show 3 ≤ sizeLine; decide), fun l1 n1 => ?_⟩⟩⟩⟩⟩⟩⟩⟩
      refine ⟨(by show 3 ≤ sizeLine; decide), fun l2 n2 => ⟨.inl ⟨rfl, _, .inl (.inl upd_same)⟩, _, rfl, l2, _, _, 0, _, rfl, rfl, .inl (.inl upd_same), rfl, rfl, rfl, rfl, (no_before rfl), ?_⟩⟩
      have e1 := (same_upd (o := .lst [.str "and", .str "or", .str "xor"]) n2) _ _ (upd_same (H := H3) (a := l1) (o := .lst [.int (Builtin.bitAnd (a % 4294967296) (b % 4294967296)), .int (Builtin.bitOr (a % 4294967296) (b % 4294967296)), .int (Builtin.bitXor (a % 4294967296) (b % 4294967296))]))
      exact ⟨l1, _, _, _, rfl, rfl, .inl (.inl e1), rfl, _, rfl, int_cast (do_and ha hb) (q _ (L2.Same.trans s1 (L2.Same.trans s2 (L2.Same.trans s3 (L2.Same.trans (same_upd n1) (same_upd n2))))))⟩
    · refine ⟨_, rfl, rfl, fun H1 s1 => ⟨_, rfl, iteF ⟨_, rfl, rfl, fun H2 s2 => ⟨_, rfl, iteF ⟨_, rfl, _, _, rfl, rfl, (by show (0 : Int) < 4294967296; decide), _, rfl, _, _, rfl, rfl, (by show (0 : Int) < 4294967296; decide), _, _, rfl, ⟨_, rfl, rfl, fun H3 s3 => ⟨_, rfl, iteT ⟨_, rfl, _, rfl, _, _, rfl, rfl, _, rfl, _, rfl, _, _, rfl, rfl, _, rfl, _, rfl, _, _, rfl, rfl, (by show 3 ≤ sizeLine; decide), fun l1 n1 => ?_⟩⟩⟩⟩⟩⟩⟩⟩
      refine ⟨(by show 3 ≤ sizeLine; decide), fun l2 n2 => ⟨.inl ⟨rfl, _, .inl (.inl upd_same)⟩, _, rfl, l2, _, _, 1, _, rfl, rfl, .inl (.inl upd_same), rfl, rfl, rfl, rfl, (no_before rfl), ?_⟩⟩
      have e1 := (same_upd (o := .lst [.str "and", .str "or", .str "xor"]) n2) _ _ (upd_same (H := H3) (a := l1) (o := .lst [.int (Builtin.bitAnd (a % 4294967296) (b % 4294967296)), .int (Builtin.bitOr (a % 4294967296) (b % 4294967296)), .int (Builtin.bitXor (a % 4294967296) (b % 4294967296))]))
      exact ⟨l1, _, _, _, rfl, rfl, .inl (.inl e1), rfl, _, rfl, int_cast (do_or ha hb) (q _ (L2.Same.trans s1 (L2.Same.trans s2 (L2.Same.trans s3 (L2.Same.trans (same_upd n1) (same_upd n2))))))⟩
    · refine ⟨_, rfl, rfl, fun H1 s1 => ⟨_, rfl, iteF ⟨_, rfl, rfl, fun H2 s2 => ⟨_, rfl, iteF ⟨_, rfl, _, _, rfl, rfl, (by show (0 : Int) < 4294967296; decide), _, rfl, _, _, rfl, rfl, (by show (0 : Int) < 4294967296; decide), _, _, rfl, ⟨_, rfl, rfl, fun H3 s3 => ⟨_, rfl, iteT ⟨_, rfl, _, rfl, _, _, rfl, rfl, _, rfl, _, rfl, _, _, rfl, rfl, _, rfl, _, rfl, _, _, rfl, rfl, (by show 3 ≤ sizeLine; decide), fun l1 n1 => ?_⟩⟩⟩⟩⟩⟩⟩⟩
      refine ⟨(by show 3 ≤ sizeLine; decide), fun l2 n2 => ⟨.inl ⟨rfl, _, .inl (.inl upd_same)⟩, _, rfl, l2, _, _, 2, _, rfl, rfl, .inl (.inl upd_same), rfl, rfl, rfl, rfl, (no_before rfl), ?_⟩⟩
      have e1 := (same_upd (o := .lst [.str "and", .str "or", .str "xor"]) n2) _ _ (upd_same (H := H3) (a := l1) (o := .lst [.int (Builtin.bitAnd (a % 4294967296) (b % 4294967296)), .int (Builtin.bitOr (a % 4294967296) (b % 4294967296)), .int (Builtin.bitXor (a % 4294967296) (b % 4294967296))]))
      exact ⟨l1, _, _, _, rfl, rfl, .inl (.inl e1), rfl, _, rfl, int_cast (do_xor ha hb) (q _ (L2.Same.trans s1 (L2.Same.trans s2 (L2.Same.trans s3 (L2.Same.trans (same_upd n1) (same_upd n2))))))⟩
    · refine ⟨_, rfl, rfl, fun H1 s1 => ⟨_, rfl, iteF ⟨_, rfl, rfl, fun H2 s2 => ⟨_, rfl, iteF ⟨_, rfl, _, _, rfl, rfl, (by show (0 : Int) < 4294967296; decide), _, rfl, _, _, rfl, rfl, (by show (0 : Int) < 4294967296; decide), _, _, rfl, ⟨_, rfl, rfl, fun H3 s3 => ⟨_, rfl, iteF ⟨_, rfl, rfl, fun H4 s4 => ⟨_, rfl, iteT ⟨_, rfl, rfl, _, rfl, iteT ?_⟩⟩⟩⟩⟩⟩⟩⟩⟩⟩
      exact ⟨_, rfl, _, rfl, _, _, rfl, rfl, (by show (0 : Int) < 32; decide), _, _, rfl, rfl, ⟨Int.emod_nonneg _ (by decide), by omega, by omega⟩, _, rfl, int_cast (do_shl a b) (q _ (L2.Same.trans s1 (L2.Same.trans s2 (L2.Same.trans s3 s4))))⟩
    · refine ⟨_, rfl, rfl, fun H1 s1 => ⟨_, rfl, iteF ⟨_, rfl, rfl, fun H2 s2 => ⟨_, rfl, iteF ⟨_, rfl, _, _, rfl, rfl, (by show (0 : Int) < 4294967296; decide), _, rfl, _, _, rfl, rfl, (by show (0 : Int) < 4294967296; decide), _, _, rfl, ⟨_, rfl, rfl, fun H3 s3 => ⟨_, rfl, iteF ⟨_, rfl, rfl, fun H4 s4 => ⟨_, rfl, iteT ⟨_, rfl, rfl, _, rfl, iteF ?_⟩⟩⟩⟩⟩⟩⟩⟩⟩⟩
      exact ⟨_, rfl, _, rfl, _, _, rfl, rfl, (by show (0 : Int) < 32; decide), _, _, rfl, rfl, Int.emod_nonneg _ (by decide), _, rfl, int_cast (do_shr ha b) (q _ (L2.Same.trans s1 (L2.Same.trans s2 (L2.Same.trans s3 s4))))⟩
    · refine ⟨_, rfl, rfl, fun H1 s1 => ⟨_, rfl, iteF ⟨_, rfl, rfl, fun H2 s2 => ⟨_, rfl, iteT ⟨_, rfl, _, rfl, _, _, rfl, rfl, _, rfl, _, rfl, _, _, rfl, rfl, _, rfl, _, rfl, _, _, rfl, rfl, _, rfl, _, rfl, _, _, rfl, rfl, _, rfl, _, rfl, rfl, _, rfl, _, rfl, rfl, (by show 6 ≤ sizeLine; decide), fun l1 n1 => ?_⟩⟩⟩⟩⟩
      refine ⟨(by show 6 ≤ sizeLine; decide), fun l2 n2 => ⟨.inl ⟨rfl, _, .inl (.inl upd_same)⟩, _, rfl, l2, _, _, 0, _, rfl, rfl, .inl (.inl upd_same), rfl, rfl, rfl, rfl, (no_before rfl), ?_⟩⟩
      have e1 := (same_upd (o := .lst [.str "lt", .str "le", .str "gt", .str "ge", .str "eq", .str "ne"]) n2) _ _ (upd_same (H := H2) (a := l1) (o := .lst [.bl (decide (a < b)), .bl (decide (a ≤ b)), .bl (decide (b < a)), .bl (decide (b ≤ a)), .bl (decide (V.int a = V.int b)), .bl (!decide (V.int a = V.int b))]))
      refine ⟨l1, _, _, _, rfl, rfl, .inl (.inl e1), rfl, .inr ⟨_, rfl, ?_⟩⟩
      refine int_cast ?_ (q _ (L2.Same.trans s1 (L2.Same.trans s2 (L2.Same.trans (same_upd n1) (same_upd n2)))))
      show (if (decide (a < b)) then (1 : Int) else 0) = b2 (cmpB .lt a b)
      rfl
    · refine ⟨_, rfl, rfl, fun H1 s1 => ⟨_, rfl, iteF ⟨_, rfl, rfl, fun H2 s2 => ⟨_, rfl, iteT ⟨_, rfl, _, rfl, _, _, rfl, rfl, _, rfl, _, rfl, _, _, rfl, rfl, _, rfl, _, rfl, _, _, rfl, rfl, _, rfl, _, rfl, _, _, rfl, rfl, _, rfl, _, rfl, rfl, _, rfl, _, rfl, rfl, (by show 6 ≤ sizeLine; decide), fun l1 n1 => ?_⟩⟩⟩⟩⟩
      refine ⟨(by show 6 ≤ sizeLine; decide), fun l2 n2 => ⟨.inl ⟨rfl, _, .inl (.inl upd_same)⟩, _, rfl, l2, _, _, 1, _, rfl, rfl, .inl (.inl upd_same), rfl, rfl, rfl, rfl, (no_before rfl), ?_⟩⟩
      have e1 := (same_upd (o := .lst [.str "lt", .str "le", .str "gt", .str "ge", .str "eq", .str "ne"]) n2) _ _ (upd_same (H := H2) (a := l1) (o := .lst [.bl (decide (a < b)), .bl (decide (a ≤ b)), .bl (decide (b < a)), .bl (decide (b ≤ a)), .bl (decide (V.int a = V.int b)), .bl (!decide (V.int a = V.int b))]))
      refine ⟨l1, _, _, _, rfl, rfl, .inl (.inl e1), rfl, .inr ⟨_, rfl, ?_⟩⟩
      refine int_cast ?_ (q _ (L2.Same.trans s1 (L2.Same.trans s2 (L2.Same.trans (same_upd n1) (same_upd n2)))))
      show (if (decide (a ≤ b)) then (1 : Int) else 0) = b2 (cmpB .le a b)
      rfl
    · refine ⟨_, rfl, rfl, fun H1 s1 => ⟨_, rfl, iteF ⟨_, rfl, rfl, fun H2 s2 => ⟨_, rfl, iteT ⟨_, rfl, _, rfl, _, _, rfl, rfl, _, rfl, _, rfl, _, _, rfl, rfl, _, rfl, _, rfl, _, _, rfl, rfl, _, rfl, _, rfl, _, _, rfl, rfl, _, rfl, _, rfl, rfl, _, rfl, _, rfl, rfl, (by show 6 ≤ sizeLine; decide), fun l1 n1 => ?_⟩⟩⟩⟩⟩
      refine ⟨(by show 6 ≤ sizeLine; decide), fun l2 n2 => ⟨.inl ⟨rfl, _, .inl (.inl upd_same)⟩, _, rfl, l2, _, _, 2, _, rfl, rfl, .inl (.inl upd_same), rfl, rfl, rfl, rfl, (no_before rfl), ?_⟩⟩
      have e1 := (same_upd (o := .lst [.str "lt", .str "le", .str "gt", .str "ge", .str "eq", .str "ne"]) n2) _ _ (upd_same (H := H2) (a := l1) (o := .lst [.bl (decide (a < b)), .bl (decide (a ≤ b)), .bl (decide (b < a)), .bl (decide (b ≤ a)), .bl (decide (V.int a = V.int b)), .bl (!decide (V.int a = V.int b))]))
      refine ⟨l1, _, _, _, rfl, rfl, .inl (.inl e1), rfl, .inr ⟨_, rfl, ?_⟩⟩
      refine int_cast ?_ (q _ (L2.Same.trans s1 (L2.Same.trans s2 (L2.Same.trans (same_upd n1) (same_upd n2)))))
      show (if (decide (b < a)) then (1 : Int) else 0) = b2 (cmpB .gt a b)
      rw [show decide (b < a) = !decide (a ≤ b) by rw [Bool.eq_iff_iff]; simp]
      rfl
    · refine ⟨_, rfl, rfl, fun H1 s1 => ⟨_, rfl, iteF ⟨_, rfl, rfl, fun H2 s2 => ⟨_, rfl, iteT ⟨_, rfl, _, rfl, _, _, rfl, rfl, _, rfl, _, rfl, _, _, rfl, rfl, _, rfl, _, rfl, _, _, rfl, rfl, _, rfl, _, rfl, _, _, rfl, rfl, _, rfl, _, rfl, rfl, _, rfl, _, rfl, rfl, (by show 6 ≤ sizeLine; decide), fun l1 n1 => ?_⟩⟩⟩⟩⟩
      refine ⟨(by show 6 ≤ sizeLine; decide), fun l2 n2 => ⟨.inl ⟨rfl, _, .inl (.inl upd_same)⟩, _, rfl, l2, _, _, 3, _, rfl, rfl, .inl (.inl upd_same), rfl, rfl, rfl, rfl, (no_before rfl), ?_⟩⟩
      have e1 := (same_upd (o := .lst [.str "lt", .str "le", .str "gt", .str "ge", .str "eq", .str "ne"]) n2) _ _ (upd_same (H := H2) (a := l1) (o := .lst [.bl (decide (a < b)), .bl (decide (a ≤ b)), .bl (decide (b < a)), .bl (decide (b ≤ a)), .bl (decide (V.int a = V.int b)), .bl (!decide (V.int a = V.int b))]))
      refine ⟨l1, _, _, _, rfl, rfl, .inl (.inl e1), rfl, .inr ⟨_, rfl, ?_⟩⟩
      refine int_cast ?_ (q _ (L2.Same.trans s1 (L2.Same.trans s2 (L2.Same.trans (same_upd n1) (same_upd n2)))))
      show (if (decide (b ≤ a)) then (1 : Int) else 0) = b2 (cmpB .ge a b)
      rw [show decide (b ≤ a) = !decide (a < b) by rw [Bool.eq_iff_iff]; simp]
      rfl
    · refine ⟨_, rfl, rfl, fun H1 s1 => ⟨_, rfl, iteF ⟨_, rfl, rfl, fun H2 s2 => ⟨_, rfl, iteT ⟨_, rfl, _, rfl, _, _, rfl, rfl, _, rfl, _, rfl, _, _, rfl, rfl, _, rfl, _, rfl, _, _, rfl, rfl, _, rfl, _, rfl, _, _, rfl, rfl, _, rfl, _, rfl, rfl, _, rfl, _, rfl, rfl, (by show 6 ≤ sizeLine; decide), fun l1 n1 => ?_⟩⟩⟩⟩⟩
      refine ⟨(by show 6 ≤ sizeLine; decide), fun l2 n2 => ⟨.inl ⟨rfl, _, .inl (.inl upd_same)⟩, _, rfl, l2, _, _, 4, _, rfl, rfl, .inl (.inl upd_same), rfl, rfl, rfl, rfl, (no_before rfl), ?_⟩⟩
      have e1 := (same_upd (o := .lst [.str "lt", .str "le", .str "gt", .str "ge", .str "eq", .str "ne"]) n2) _ _ (upd_same (H := H2) (a := l1) (o := .lst [.bl (decide (a < b)), .bl (decide (a ≤ b)), .bl (decide (b < a)), .bl (decide (b ≤ a)), .bl (decide (V.int a = V.int b)), .bl (!decide (V.int a = V.int b))]))
      refine ⟨l1, _, _, _, rfl, rfl, .inl (.inl e1), rfl, .inr ⟨_, rfl, ?_⟩⟩
      refine int_cast ?_ (q _ (L2.Same.trans s1 (L2.Same.trans s2 (L2.Same.trans (same_upd n1) (same_upd n2)))))
      show (if (decide (V.int a = V.int b)) then (1 : Int) else 0) = b2 (cmpB .eq a b)
      rw [show decide (V.int a = V.int b) = decide (a = b) from decide_eq_decide.mpr ⟨V.int.inj, congrArg _⟩]
      rfl
    · refine ⟨_, rfl, rfl, fun H1 s1 => ⟨_, rfl, iteF ⟨_, rfl, rfl, fun H2 s2 => ⟨_, rfl, iteT ⟨_, rfl, _, rfl, _, _, rfl, rfl, _, rfl, _, rfl, _, _, rfl, rfl, _, rfl, _, rfl, _, _, rfl, rfl, _, rfl, _, rfl, _, _, rfl, rfl, _, rfl, _, rfl, rfl, _, rfl, _, rfl, rfl, (by show 6 ≤ sizeLine; decide), fun l1 n1 => ?_⟩⟩⟩⟩⟩
      refine ⟨(by show 6 ≤ sizeLine; decide), fun l2 n2 => ⟨.inl ⟨rfl, _, .inl (.inl upd_same)⟩, _, rfl, l2, _, _, 5, _, rfl, rfl, .inl (.inl upd_same), rfl, rfl, rfl, rfl, (no_before rfl), ?_⟩⟩
      have e1 := (same_upd (o := .lst [.str "lt", .str "le", .str "gt", .str "ge", .str "eq", .str "ne"]) n2) _ _ (upd_same (H := H2) (a := l1) (o := .lst [.bl (decide (a < b)), .bl (decide (a ≤ b)), .bl (decide (b < a)), .bl (decide (b ≤ a)), .bl (decide (V.int a = V.int b)), .bl (!decide (V.int a = V.int b))]))
      refine ⟨l1, _, _, _, rfl, rfl, .inl (.inl e1), rfl, .inr ⟨_, rfl, ?_⟩⟩
      refine int_cast ?_ (q _ (L2.Same.trans s1 (L2.Same.trans s2 (L2.Same.trans (same_upd n1) (same_upd n2)))))
      show (if (!decide (V.int a = V.int b)) then (1 : Int) else 0) = b2 (cmpB .ne a b)
      rw [show decide (V.int a = V.int b) = decide (a = b) from decide_eq_decide.mpr ⟨V.int.inj, congrArg _⟩]
      rfl
    · refine ⟨_, rfl, rfl, fun H1 s1 => ⟨_, rfl, iteF ⟨_, rfl, rfl, fun H2 s2 => ⟨_, rfl, iteF ⟨_, rfl, _, _, rfl, rfl, (by show (0 : Int) < 4294967296; decide), _, rfl, _, _, rfl, rfl, (by show (0 : Int) < 4294967296; decide), _, _, rfl, ⟨_, rfl, rfl, fun H3 s3 => ⟨_, rfl, iteF ⟨_, rfl, rfl, fun H4 s4 => ⟨_, rfl, iteF ⟨_, rfl, _, rfl, _, _, rfl, rfl, _, rfl, _, rfl, _, _, rfl, rfl, _, rfl, _, rfl, _, _, rfl, rfl, hm2, _, rfl, _, _, rfl, rfl, _, rfl, _, _, rfl, rfl, _, _, rfl, rfl, (by show 5 ≤ sizeLine; decide), fun l1 n1 => ?_⟩⟩⟩⟩⟩⟩⟩⟩⟩⟩
      refine ⟨(by show 5 ≤ sizeLine; decide), fun l2 n2 => ⟨.inl ⟨rfl, _, .inl (.inl upd_same)⟩, _, rfl, l2, _, _, 3, _, rfl, rfl, .inl (.inl upd_same), rfl, rfl, rfl, rfl, (no_before rfl), ?_⟩⟩
      have e1 := (same_upd (o := .lst [.str "add", .str "sub", .str "mul", .str "neg", .str "not"]) n2) _ _ (upd_same (H := H4) (a := l1) (o := .lst [.int (a + b), .int (a - b), .int (a * b), .int (0 - a), .int (0 - a - 1)]))
      exact ⟨l1, _, _, _, rfl, rfl, .inl (.inl e1), rfl, _, rfl, int_cast (congrArg wrp (Int.zero_sub a)) (q _ (L2.Same.trans s1 (L2.Same.trans s2 (L2.Same.trans s3 (L2.Same.trans s4 (L2.Same.trans (same_upd n1) (same_upd n2)))))))⟩
    · refine ⟨_, rfl, rfl, fun H1 s1 => ⟨_, rfl, iteF ⟨_, rfl, rfl, fun H2 s2 => ⟨_, rfl, iteF ⟨_, rfl, _, _, rfl, rfl, (by show (0 : Int) < 4294967296; decide), _, rfl, _, _, rfl, rfl, (by show (0 : Int) < 4294967296; decide), _, _, rfl, ⟨_, rfl, rfl, fun H3 s3 => ⟨_, rfl, iteF ⟨_, rfl, rfl, fun H4 s4 => ⟨_, rfl, iteF ⟨_, rfl, _, rfl, _, _, rfl, rfl, _, rfl, _, rfl, _, _, rfl, rfl, _, rfl, _, rfl, _, _, rfl, rfl, hm2, _, rfl, _, _, rfl, rfl, _, rfl, _, _, rfl, rfl, _, _, rfl, rfl, (by show 5 ≤ sizeLine; decide), fun l1 n1 => ?_⟩⟩⟩⟩⟩⟩⟩⟩⟩⟩
      refine ⟨(by show 5 ≤ sizeLine; decide), fun l2 n2 => ⟨.inl ⟨rfl, _, .inl (.inl upd_same)⟩, _, rfl, l2, _, _, 4, _, rfl, rfl, .inl (.inl upd_same), rfl, rfl, rfl, rfl, (no_before rfl), ?_⟩⟩
      have e1 := (same_upd (o := .lst [.str "add", .str "sub", .str "mul", .str "neg", .str "not"]) n2) _ _ (upd_same (H := H4) (a := l1) (o := .lst [.int (a + b), .int (a - b), .int (a * b), .int (0 - a), .int (0 - a - 1)]))
      exact ⟨l1, _, _, _, rfl, rfl, .inl (.inl e1), rfl, _, rfl, int_cast (congrArg (fun z => wrp (z - 1)) (Int.zero_sub a)) (q _ (L2.Same.trans s1 (L2.Same.trans s2 (L2.Same.trans s3 (L2.Same.trans s4 (L2.Same.trans (same_upd n1) (same_upd n2)))))))⟩
end
end Cb
end

section
set_option maxRecDepth 100000
set_option maxHeartbeats 4000000
namespace Cb
open PySem PySem.Spec PyProof.Rows L2
local macro_rules | `(tactic| walk_at "pl") => `(tactic| first
  | with_reducible assumption
  | ((with_reducible apply PoolAt.new); (with_reducible assumption); walk_at "pl")
  | ((with_reducible apply PoolAt.same'); (with_reducible assumption); walk_at "pl"))
local macro_rules | `(tactic| walk_at "hp") => `(tactic| first
  | with_reducible assumption
  | with_reducible exact upd_same
  | ((with_reducible apply upd_new); (with_reducible assumption); walk_at "hp")
  | ((with_reducible apply hp_same); (with_reducible assumption); walk_at "hp")
  | ((with_reducible apply but_tup); (with_reducible assumption); walk_at "pl"; walk_at "hp")
  | ((with_reducible apply but_lst); (with_reducible assumption); walk_at "pl"; walk_at "hp"; first | exact rfl | assumption | exact npool_app (by omega)))
local macro_rules | `(tactic| walk_at "da") => `(tactic| first
  | with_reducible assumption
  | with_reducible exact DA.int _
  | with_reducible exact DA.str _
  | with_reducible exact DA.bl _
  | with_reducible exact DA.non
  | ((with_reducible apply DA.tup); (with_reducible exact upd_same); walk_at "dal")
  | ((with_reducible apply DA.lst); (with_reducible exact upd_same); exact rfl; exact rfl; walk_at "dal")
  | with_reducible exact DA.dct upd_same
  | ((with_reducible apply DA.new); (with_reducible assumption); walk_at "da")
  | ((with_reducible apply DA.same'); (with_reducible assumption); walk_at "da")
  | ((with_reducible apply DA.but'); (with_reducible assumption); walk_at "pl"; walk_at "da"))
local macro_rules | `(tactic| walk_at "dal") => `(tactic| first
  | exact DAll.nil
  | (apply DAll.cons; walk_at "da"; walk_at "dal"))
local macro_rules | `(tactic| walk_at "ft") => `(tactic| first
  | with_reducible assumption
  | apply Fit.non'
  | apply Fit.bl'
  | (apply Fit.str (n := 20); decide +kernel)
  | (apply Fit.int'; first | decide | omega)
  | (apply Fit.tup'; walk_at "fta")
  | (apply Fit.lst'; walk_at "fta"))
local macro_rules | `(tactic| walk_at "fta") => `(tactic| first
  | apply FitAll.nil'
  | (apply FitAll.cons'; walk_at "ft"; walk_at "fta"))
local macro_rules | `(tactic| walk_at "sm") => `(tactic| first
  | with_reducible assumption
  | with_reducible exact L2.Same.refl _
  | ((with_reducible apply sm_new); (with_reducible assumption); walk_at "sm")
  | ((with_reducible apply sm_same); (with_reducible assumption); walk_at "sm"))
local macro_rules | `(tactic| walk_at "sb") => `(tactic| first
  | with_reducible assumption
  | with_reducible exact SameBut.refl _ _
  | ((with_reducible apply sb_new); (with_reducible assumption); walk_at "sb")
  | ((with_reducible apply sb_but); (with_reducible assumption); walk_at "sb")
  | ((with_reducible apply sb_same); (with_reducible assumption); walk_at "sb"))
local macro_rules | `(tactic| walk_at "sq") => `(tactic| first
  | (refine Or.inl (Or.inl ?_); walk_at "hp")
  | (refine Or.inr (Or.inl (Or.inl ?_)); walk_at "hp")
  | (refine Or.inl (Or.inl (Or.inl ?_)); walk_at "hp")
  | exact (by assumption : ∀ H', SqT _ H' _ _) _
  | exact Or.inr ((by assumption : ∀ H', SqT _ H' _ _) _))
local macro_rules | `(tactic| walk_at "dt") => `(tactic| first
  | with_reducible assumption
  | apply (by assumption : ∀ b, Dat b _ _ _ _)
  | (with_reducible apply Dat.non)
  | (with_reducible apply Dat.bl)
  | ((with_reducible apply Dat.str); first | decide +kernel | exact name_short _)
  | ((with_reducible apply Dat.int); first | decide | omega)
  | ((with_reducible apply Dat.up'); (first | (with_reducible assumption) | apply (by assumption : ∀ b, Dat b _ _ _ _)); omega)
  | ((with_reducible apply Dat.tup); (with_reducible exact upd_same); walk_at "dtl")
  | ((with_reducible apply Dat.lst); (with_reducible exact upd_same); (first | exact rfl | assumption); (first | exact rfl | assumption); walk_at "dtl")
  | ((with_reducible apply Dat.dct); with_reducible exact upd_same)
  | ((with_reducible apply Dat.new); (with_reducible assumption); walk_at "dt")
  | ((with_reducible apply Dat.same'); (with_reducible assumption); walk_at "dt")
  | ((with_reducible apply Dat.but'); (with_reducible assumption); walk_at "pl"; walk_at "dt")
  | ((with_reducible apply Dat.ofE); (with_reducible assumption); omega)
  | ((with_reducible apply Dat.leaf); (with_reducible assumption); assumption; assumption; decide; omega))
local macro_rules | `(tactic| walk_at "dtl") => `(tactic| first
  | apply DatL.nil
  | ((with_reducible apply DatL.cons); walk_at "dt"; walk_at "dtl")
  | with_reducible assumption
  | apply (by assumption : ∀ b, DatL b _ _ _ _)
  | ((with_reducible apply DatL.up'); (first | (with_reducible assumption) | apply (by assumption : ∀ b, DatL b _ _ _ _)); omega)
  | ((with_reducible apply DatL.new); (with_reducible assumption); walk_at "dtl")
  | ((with_reducible apply DatL.same'); (with_reducible assumption); walk_at "dtl")
  | ((with_reducible apply DatL.but'); (with_reducible assumption); walk_at "pl"; walk_at "dtl"))
local macro_rules | `(tactic| walk_at "al") => `(tactic| first
  | exact AllD.nil
  | ((with_reducible apply AllD.cons); walk_at "dt"; omega; walk_at "al")
  | with_reducible assumption
  | ((with_reducible apply AllD.app); walk_at "al"; walk_at "al")
  | ((with_reducible apply AllD.new); (with_reducible assumption); walk_at "al")
  | ((with_reducible apply AllD.same'); (with_reducible assumption); walk_at "al")
  | ((with_reducible apply AllD.but'); (with_reducible assumption); walk_at "pl"; walk_at "al"))
local macro_rules | `(tactic| walk_at "pt") => `(tactic| first
  | with_reducible assumption
  | ((with_reducible apply PatAt.new); (with_reducible assumption); walk_at "pt")
  | ((with_reducible apply PatAt.same'); (with_reducible assumption); walk_at "pt")
  | ((with_reducible apply PatAt.but'); (with_reducible assumption); walk_at "pl"; walk_at "pt"))
local macro_rules | `(tactic| walk_at "db") => `(tactic| first
  | with_reducible assumption
  | ((with_reducible apply DatB.new); (with_reducible assumption); walk_at "db")
  | ((with_reducible apply DatB.same'); (with_reducible assumption); walk_at "db")
  | ((with_reducible apply DatB.but'); (with_reducible assumption); walk_at "pl"; walk_at "db"))
local macro_rules | `(tactic| walk_at "st") => `(tactic| first
  | (with_reducible show upd _ _ _ _ = some _); (walk_at "hp")
  | (with_reducible show L2.Same _ _); (walk_at "sm")
  | (with_reducible refine And.intro ?_ ?_)
  | exact rfl
  | with_reducible assumption
  | (with_reducible show DA _ _ _); (walk_at "da")
  | (with_reducible show PoolAt _ _); (walk_at "pl")
  | (with_reducible show Dat _ _ _ _ _); (walk_at "dt")
  | (with_reducible show Fit _ _ _ _); (walk_at "ft")
  | (with_reducible show PatAt _ _ _); (walk_at "pt")
  | (with_reducible show SameBut _ _ _); (walk_at "sb")
  | (with_reducible show _ ≤ sizeLine); (first | exact len_line _ rfl | exact len_line2 _ _ rfl rfl | decide | omega | exact Nat.le_trans (m := 200000) (by omega) (by decide) | exact Nat.le_trans (m := 200000) (by simp only [List.length_cons, List.length_nil]; omega) (by decide))
  | (with_reducible first | show (_ : Int) ≤ _ | show (_ : Int) < _ | show (_ : Nat) ≤ _ | show (_ : Nat) < _); (first | omega | (simp only [List.length_append]; omega) | (simp only [List.length_cons, List.length_nil]; omega) | (simp only [List.length_append, List.length_cons, List.length_nil]; omega) | exact Int.lt_of_lt_of_le (by assumption) (by decide))
  | exact cut1_not _ _
  | exact List.cons_ne_nil _ _
  | exact fun h => absurd h (List.cons_ne_nil _ _)
  | exact fun h => (h rfl).elim
  | (with_reducible show DatB _ _ _ _); (walk_at "db")
  | (with_reducible show AllD _ _ _ _); (walk_at "al")
  | exact Or.inl ⟨rfl, _, Or.inl (Or.inl (by walk_at "hp"))⟩
  | exact fun h => absurd h.1 (Nat.ne_of_beq_eq_false rfl)
  | exact fun h => absurd h.2 (Nat.ne_of_beq_eq_false rfl)
  | exact at0 _ _
  | exact at1 _ _ _
  | (refine And.intro ?_ ?_)
  | (fail_if_success first | show (∃ _ : Nat → Nat → L2.St → Hp → Prop, _) | show (∃ _ : Nat → Nat → Hp → Prop, _) | show (∃ _ : Nat → L2.St → Hp → Prop, _)); (apply Exists.intro)
  | (refine iteT' rfl ?_)
  | (refine iteF' rfl ?_)
  | walk_at "sq"
  | (with_reducible show _ = some _); (walk_at "hp")
  | intro _
  | assumption)
local macro_rules | `(tactic| walk_at "rd") => `(tactic| repeat walk_at "st")
/-- what the top has left of the error classes; Ad: their addresses, in the order of the text -/
structure Ers (K : PySem.W.Frag) (mg : Str → Option Value) (Ad : Nat → Addr) : Prop where
  g0 : mg "FormError" = some (.ref (Ad 0))
  g1 : mg "InvalidNumber" = some (.ref (Ad 1))
  e1 : ErrTxt K mg bVE "InvalidNumber" (Ad 1)
  i1 : ∃ fI, Init1 K (Ad 1) fI "InvalidNumber.__init__" "value"
  g2 : mg "InvalidOperation" = some (.ref (Ad 2))
  e2 : ErrTxt K mg bVE "InvalidOperation" (Ad 2)
  i2 : ∃ fI, Init1 K (Ad 2) fI "InvalidOperation.__init__" "value"
  g3 : mg "InvalidWords" = some (.ref (Ad 3))
  e3 : ErrTxt K mg bVE "InvalidWords" (Ad 3)
  i3 : ∃ fI, Init1 K (Ad 3) fI "InvalidWords.__init__" "index"
  g4 : mg "InvalidFuel" = some (.ref (Ad 4))
  e4 : ErrTxt K mg bVE "InvalidFuel" (Ad 4)
  i4 : ∃ fI, Init1 K (Ad 4) fI "InvalidFuel.__init__" "value"
  g5 : mg "InvalidSource" = some (.ref (Ad 5))
  e5 : ErrTxt K mg bVE "InvalidSource" (Ad 5)
  i5 : ∃ fI, Init1 K (Ad 5) fI "InvalidSource.__init__" "value"
  g6 : mg "InvalidCode" = some (.ref (Ad 6))
  e6 : ErrTxt K mg bVE "InvalidCode" (Ad 6)
  i6 : ∃ fI, Init1 K (Ad 6) fI "InvalidCode.__init__" "value"
  g7 : mg "InvalidGraph" = some (.ref (Ad 7))
  e7 : ErrTxt K mg bVE "InvalidGraph" (Ad 7)
  i7 : ∃ fI, Init1 K (Ad 7) fI "InvalidGraph.__init__" "value"
  g8 : mg "InvalidPattern" = some (.ref (Ad 8))
  e8 : ErrTxt K mg bVE "InvalidPattern" (Ad 8)
  i8 : ∃ fI, Init1 K (Ad 8) fI "InvalidPattern.__init__" "value"
  g9 : mg "InvalidText" = some (.ref (Ad 9))
  e9 : ErrTxt K mg bVE "InvalidText" (Ad 9)
  i9 : ∃ fI, Init1 K (Ad 9) fI "InvalidText.__init__" "line"
  g10 : mg "InvalidTries" = some (.ref (Ad 10))
  e10 : ErrTxt K mg bVE "InvalidTries" (Ad 10)
  i10 : ∃ fI, Init1 K (Ad 10) fI "InvalidTries.__init__" "value"
  g11 : mg "InvalidTimes" = some (.ref (Ad 11))
  e11 : ErrTxt K mg bVE "InvalidTimes" (Ad 11)
  i11 : ∃ fI, Init1 K (Ad 11) fI "InvalidTimes.__init__" "value"
  g12 : mg "InvalidEdits" = some (.ref (Ad 12))
  e12 : ErrTxt K mg bVE "InvalidEdits" (Ad 12)
  i12 : ∃ fI, Init1 K (Ad 12) fI "InvalidEdits.__init__" "index"
  g13 : mg "InvalidLine" = some (.ref (Ad 13))
  e13 : ErrTxt K mg bVE "InvalidLine" (Ad 13)
  i13 : ∃ fI, Init1 K (Ad 13) fI "InvalidLine.__init__" "value"
  g14 : mg "Unsound" = some (.ref (Ad 14))
  e14 : ErrTxt K mg bVE "Unsound" (Ad 14)
  i14 : ∃ fI, Init2 K (Ad 14) fI "Unsound.__init__"
  g15 : mg "FindError" = some (.ref (Ad 15))
  g16 : mg "UnknownFunction" = some (.ref (Ad 16))
  e16 : ErrTxt K mg bLE "UnknownFunction" (Ad 16)
  i16 : ∃ fI, Init1 K (Ad 16) fI "UnknownFunction.__init__" "value"
  g17 : mg "StillCalled" = some (.ref (Ad 17))
  e17 : ErrTxt K mg bLE "StillCalled" (Ad 17)
  i17 : ∃ fI, Init1 K (Ad 17) fI "StillCalled.__init__" "function"
  g18 : mg "LastFunction" = some (.ref (Ad 18))
  e18 : ErrTxt K mg bLE "LastFunction" (Ad 18)
  i18 : ∃ fI, Init1 K (Ad 18) fI "LastFunction.__init__" "function"
  g19 : mg "Tangled" = some (.ref (Ad 19))
  e19 : ErrTxt K mg bLE "Tangled" (Ad 19)
  i19 : ∃ fI, Init1 K (Ad 19) fI "Tangled.__init__" "function"
  g20 : mg "NothingToUndo" = some (.ref (Ad 20))
  g21 : mg "LimitError" = some (.ref (Ad 21))
  g22 : mg "TooLarge" = some (.ref (Ad 22))
  e22 : ErrTxt K mg bAE "TooLarge" (Ad 22)
  i22 : ∃ fI, Init1 K (Ad 22) fI "TooLarge.__init__" "function"
  g23 : mg "TooManyFunctions" = some (.ref (Ad 23))
  e23 : ErrTxt K mg bAE "TooManyFunctions" (Ad 23)
  i23 : ∃ fI, Init1 K (Ad 23) fI "TooManyFunctions.__init__" "count"
  g24 : mg "TooManyEdits" = some (.ref (Ad 24))
  e24 : ErrTxt K mg bAE "TooManyEdits" (Ad 24)
  i24 : ∃ fI, Init1 K (Ad 24) fI "TooManyEdits.__init__" "count"
  kit : ∀ k, k < 3 → ∀ j, j < 25 → PySem.W.kitOne K (.ref (Ad (k + 1))) (.ref (Ad j)) = some (decide (j = 0 ∨ j = k + 1))
  kitV : ∀ k, k < 3 → PySem.W.kitOne K (.ref (Ad (k + 1))) (.type "ValueError") = some true
  kitL : ∀ k, k < 3 → PySem.W.kitOne K (.ref (Ad (k + 1))) (.type "LookupError") = some false
  kitA : ∀ k, k < 3 → PySem.W.kitOne K (.ref (Ad (k + 1))) (.type "ArithmeticError") = some false
  exm : ∀ k, k < 3 → ∀ j, j < 25 → PySem.W.exmOne K (.ref (Ad (k + 1))) (.ref (Ad j)) = some (decide (j = 0 ∨ j = k + 1))
  isc : ∀ k, k < 3 → IsC K (Ad (k + 1))
  isN : IsC K (Ad 20)
  exN : PySem.W.excIn K (Ad 20) bLE.tl bLE.newId = true
  kpN : PySem.W.keepIn K (.ref (Ad 20)) = true
  kitN : PySem.W.kitOne K (.ref (Ad 20)) (.ref (Ad 15)) = some true
def isIntD : PyData → Bool
  | .int _ => true
  | _ => false
def wordD : PyData → Bool
  | .int i => decide (Wd i)
  | _ => false
def spIsIntD : Sp := fun vs H Q _ => ∃ (v : V) (d : PyData), vs = [v] ∧ DA H v d ∧ Q (.bl (isIntD d)) H
def spIsWordD : Sp := fun vs H Q _ => ∃ (v : V) (d : PyData), vs = [v] ∧ DA H v d ∧ Q (.bl (wordD d)) H
abbrev sgl2 : List V := [.str "neg", .str "not"]
abbrev dbl16 : List V := [.str "add", .str "sub", .str "mul", .str "div", .str "rem", .str "and", .str "or", .str "xor", .str "shl", .str "shr", .str "lt", .str "le", .str "gt", .str "ge", .str "eq", .str "ne"]
/-- the name of an operation -/
def opN : PyData → Bool
  | .str s => inV (.str s) sgl2 || inV (.str s) dbl16
  | _ => false
def sgN : PyData → Bool
  | .str s => inV (.str s) sgl2
  | _ => false
/-- how a call ends: it returns, or an error of the k-th class (number, operation, words) with a field -/
inductive Outc where
  | ret
  | err (k : Nat) (d : PyData)
def errF : Nat → Str
  | 2 => "index"
  | _ => "value"
def firstBad : Nat → List PyData → Option Nat
  | _, [] => none
  | i, d :: r => if wordD d = true then firstBad (i + 1) r else some i
def opOut (wd : PyData) (gs : List PyData) : Outc :=
  if opN wd = false then .err 1 wd else if gs.length ≠ (if sgN wd = true then 1 else 2) then .err 2 .none else match firstBad 0 gs with
    | some i => .err 2 (.int (i : Int))
    | none => .ret
def Ends3 (Ad : Nat → Addr) (H : Hp) (Q : VK) (E : XK) : Outc → Prop
  | .ret => ∀ H' r, L2.Same H H' → Q r H'
  | .err k d => ∀ H' dd v, L2.Same H H' → H' dd = some (.xd [(errF k, v)]) → DA H' v d → E (.ref (Ad (k + 1))) (some dd) H'
theorem Ends3.up {Ad : Nat → Addr} {H H1 : Hp} {Q : VK} {E : XK} {o : Outc} (h : Ends3 Ad H Q E o) (s : L2.Same H H1) : Ends3 Ad H1 Q E o := by
  cases o with
  | ret => exact fun H' r s1 => h H' r (L2.Same.trans s s1)
  | err k d => exact fun H' dd v s1 => h H' dd v (L2.Same.trans s s1)
def spWrapE (Ad : Nat → Addr) : Sp := fun vs H Q E => ∃ (v : V) (d : PyData), vs = [v] ∧ DA H v d ∧ Ends3 Ad H Q E (if isIntD d = true then .ret else .err 0 d)
def spOpB (Ad : Nat → Addr) : Sp := fun vs H Q E => ∃ (v : V) (wd : PyData) (p : Addr) (ws : List V) (gs : List PyData), vs = [v, .ref p] ∧ H p = some (.tup ws) ∧ DA H v wd ∧ DAll H ws gs ∧ Ends3 Ad H Q E (opOut wd gs)
def spOpE (Ad : Nat → Addr) : Sp := fun vs H Q E => ∃ (v : V) (wd : PyData) (ws : List V) (gs : List PyData), vs = v :: ws ∧ ws.length ≤ 10 ∧ DA H v wd ∧ DAll H ws gs ∧ Ends3 Ad H Q E (opOut wd gs)
def spAsked (Ad : Nat → Addr) : Sp := fun vs H Q E => ∃ (v : V) (wd : PyData) (l : Addr) (ws : List V) (gs : List PyData), vs = [v, .ref l] ∧ H l = some (.lst ws) ∧ ws.length ≤ 4 ∧ DA H v wd ∧ DAll H ws gs ∧ Ends3 Ad H Q E (opOut wd gs)
theorem nots {b : Bool} (h : (!b) = true) : b = false := by
  cases b
  · rfl
  · cases h
theorem str_of {x : PyData} (h : ¬ (!isStr x) = true) : ∃ o, x = .str o := by
  cases x with
  | str o => exact ⟨o, rfl⟩
  | _ => exact absurd rfl h
theorem dall_at {H : Hp} : ∀ {vs : List V} {ds : List PyData} {i : Nat} {x : V}, DAll H vs ds → vs[i]? = some x → ∃ d, ds[i]? = some d ∧ DA H x d
  | _, _, _, _, .nil, e => by simp at e
  | _, _, 0, _, .cons r _, e => ⟨_, rfl, by cases e; exact r⟩
  | _, _, i + 1, x, .cons _ t, e => dall_at (i := i) t e
/-- the first bad one: all ahead are words -/
theorem firstBad_spec : ∀ (gs : List PyData) (i0 : Nat), (firstBad i0 gs = none ∧ ∀ d ∈ gs, wordD d = true) ∨ (∃ j, firstBad i0 gs = some (i0 + j) ∧ j < gs.length ∧ (∀ m d, m < j → gs[m]? = some d → wordD d = true) ∧ ∃ d, gs[j]? = some d ∧ wordD d = false)
  | [], i0 => .inl ⟨rfl, fun _ h => nomatch h⟩
  | d :: r, i0 => by
    cases hw : wordD d with
    | false =>
      refine .inr ⟨0, ?_, Nat.succ_pos _, fun m _ h => absurd h (Nat.not_lt_zero _), d, rfl, hw⟩
      show (if wordD d = true then firstBad (i0 + 1) r else some i0) = _
      rw [hw]
      rfl
    | true =>
      have e : firstBad i0 (d :: r) = firstBad (i0 + 1) r := by
        show (if wordD d = true then firstBad (i0 + 1) r else some i0) = _
        rw [hw]
        rfl
      rcases firstBad_spec r (i0 + 1) with ⟨h1, h2⟩ | ⟨j, h1, h2, h3, h4⟩
      · refine .inl ⟨e.trans h1, fun x hx => ?_⟩
        rcases List.mem_cons.mp hx with z | z
        · rw [z]
          exact hw
        · exact h2 x z
      · refine .inr ⟨j + 1, (e.trans h1).trans (by congr 1; omega), Nat.succ_lt_succ h2, fun m x hm hx => ?_, h4⟩
        cases m with
        | zero =>
          cases hx
          exact hw
        | succ m => exact h3 m x (by omega) hx
section
variable {P : Program} {w : World} {K : PySem.W.Frag} {mg : Str → Option Value} {base : Heap} {Ad : Nat → Addr}
theorem gd_is_integer (T : Txt K mg)  : Gives P w K mg base CX0 1 "is_integer" spIsIntD := by
  refine gives_fun T.d_is_integer sc_is_integer (fun _ _ _ _ _ _ us hl => match us, hl with | [_], _ => rfl) (fun vs H Q E h => ?_) (fun f cdv A outer s H vs Q E hr h => ?_)
  · obtain ⟨v, d, rfl, _⟩ := h
    rfl
  · obtain ⟨v, d, rfl, hd, q⟩ := h
    refine ⟨_, (pss_one (ps_ret (pe_and (pe_callB (call_isiD kb_int) (by rfl) T.n_isinstance (by decide +kernel) (pa_cons (pv 0) (pa_cons (pe_bltn (v := .ty "int") (by rfl) T.n_int (by decide +kernel) rfl) pa_nil))) (pe_one (pe_not (pe_callB (call_isiD kb_bool) (by rfl) T.n_isinstance (by decide +kernel) (pa_cons (pv 0) (pa_cons (pe_bltn (v := .ty "bool") (by rfl) T.n_bool (by decide +kernel) rfl) pa_nil)))))))), ?_⟩
    cases d <;> walk_at "rd"
theorem gd_is_word (T : Txt K mg) (g_is_integer : Gives P w K mg base CX0 1 "is_integer" spIsIntD) : Gives P w K mg base CX0 2 "is_word" spIsWordD := by
  refine gives_fun T.d_is_word sc_is_word (fun _ _ _ _ _ _ us hl => match us, hl with | [_], _ => rfl) (fun vs H Q E h => ?_) (fun f cdv A outer s H vs Q E hr h => ?_)
  · obtain ⟨v, d, rfl, _⟩ := h
    rfl
  · obtain ⟨v, d, rfl, hd, q⟩ := h
    refine ⟨_, (pss_one (ps_ret (pe_and (pe_own g_is_integer (hr.mono (by decide)) (by rfl) pass0 (pa_cons (pv 0) pa_nil)) (pe_one (pe_chain op_le op_le (pe_gv (by rfl) T.c_LEAST) (pv 0) (pe_gv (by rfl) T.c_GREATEST)))))), ?_⟩
    cases d with
    | int i =>
      cases hd
      walk_at "rd"
      refine ite2 (fun c => ?_) (fun c => ?_)
      · have c1 : (-2147483648 : Int) ≤ i := of_decide_eq_true c
        walk_at "rd"
        exact bl_cast (decide_eq_decide.mpr ⟨fun z => ⟨c1, z⟩, fun z => z.2⟩) q
      · have c1 : ¬ (-2147483648 : Int) ≤ i := fun z => c (decide_eq_true z)
        exact bl_cast (decide_eq_false fun z => c1 z.1).symm q
    | _ => walk_at "rd"
theorem ge_wrap (T : Txt K mg) (R : Ers K mg Ad) (g_is_integer : Gives P w K mg base CX0 1 "is_integer" spIsIntD) (g_wrapped : Gives P w K mg base CX0 1 "wrapped" spWrapped) : Gives P w K mg base (L2.CX P w) 3 "wrap" (spWrapE Ad) := by
  refine givesE_fun T.d_wrap sc_wrap (fun _ _ _ _ _ _ us hl => match us, hl with | [_], _ => rfl) (fun vs H Q E h => ?_) (fun f cdv A outer s H vs Q E hr h => ?_)
  · obtain ⟨v, d, rfl, _⟩ := h
    rfl
  · obtain ⟨v, d, rfl, hd, q⟩ := h
    obtain ⟨f1, J1⟩ := R.i1
    refine ⟨_, (pss_cons (ps_if (pt_not (pt_val (pe_own g_is_integer (hr.mono (by decide)) (by rfl) pass0 (pa_cons (pv 0) pa_nil)))) (pss_one (ps_raiseE rfl R.e1 J1.iC J1.tC (fun v => init_value R.e1 J1 (.inl ⟨rfl, rfl⟩)) (k := 0) (hr.mono (by decide)) (takes_of rfl rfl rfl rfl) (pa_cons (pv 0) pa_nil) (by rfl))) pss_nil)
      (pss_one (ps_ret (pe_own g_wrapped (hr.mono (by decide)) (by rfl) pass0 (pa_cons (pv 0) pa_nil))))), ?_⟩
    cases hi : isIntD d with
    | true =>
      rw [hi] at q
      have q : ∀ H' r, L2.Same H H' → Q r H' := q
      obtain ⟨i, rfl⟩ : ∃ i, d = .int i := by
        cases d with
        | int i => exact ⟨i, rfl⟩
        | _ => cases hi
      cases hd
      walk_at "rd"
      exact q _ _ (by walk_at "sm")
    | false =>
      rw [hi] at q
      have q : ∀ H' dd v, L2.Same H H' → H' dd = some (.xd [("value", v)]) → DA H' v d → E (.ref (Ad 1)) (some dd) H' := q
      walk_at "rd"
      refine iteT' (by rw [hi]; rfl) ?_
      walk_at "rd"
      exact q _ _ _ (by walk_at "sm") upd_same (by walk_at "da")
theorem gek_wrap (T : Txt K mg) (R : Ers K mg Ad) (g_is_integer : Gives P w K mg base CX0 1 "is_integer" spIsIntD) (g_wrapped : Gives P w K mg base CX0 1 "wrapped" spWrapped) : GivesK P w K mg base (L2.CX P w) 3 "wrap" ["number"] (spWrapE Ad) := by
  refine givesEK_fun T.d_wrap sc_wrap (fun _ _ _ _ _ _ us ws h1 h2 => match us, ws, h1, h2 with | [], [_], _, _ => rfl | (_ :: _), [_], _, h2 => absurd h2 (by simp)) (fun vs H Q E h => ?_) (fun f cdv A outer s H vs Q E hr h => ?_)
  · obtain ⟨v, d, rfl, _⟩ := h
    rfl
  · obtain ⟨v, d, rfl, hd, q⟩ := h
    obtain ⟨f1, J1⟩ := R.i1
    refine ⟨_, (pss_cons (ps_if (pt_not (pt_val (pe_own g_is_integer (hr.mono (by decide)) (by rfl) pass0 (pa_cons (pv 0) pa_nil)))) (pss_one (ps_raiseE rfl R.e1 J1.iC J1.tC (fun v => init_value R.e1 J1 (.inl ⟨rfl, rfl⟩)) (k := 0) (hr.mono (by decide)) (takes_of rfl rfl rfl rfl) (pa_cons (pv 0) pa_nil) (by rfl))) pss_nil)
      (pss_one (ps_ret (pe_own g_wrapped (hr.mono (by decide)) (by rfl) pass0 (pa_cons (pv 0) pa_nil))))), ?_⟩
    cases hi : isIntD d with
    | true =>
      rw [hi] at q
      have q : ∀ H' r, L2.Same H H' → Q r H' := q
      obtain ⟨i, rfl⟩ : ∃ i, d = .int i := by
        cases d with
        | int i => exact ⟨i, rfl⟩
        | _ => cases hi
      cases hd
      walk_at "rd"
      exact q _ _ (by walk_at "sm")
    | false =>
      rw [hi] at q
      have q : ∀ H' dd v, L2.Same H H' → H' dd = some (.xd [("value", v)]) → DA H' v d → E (.ref (Ad 1)) (some dd) H' := q
      walk_at "rd"
      refine iteT' (by rw [hi]; rfl) ?_
      walk_at "rd"
      exact q _ _ _ (by walk_at "sm") upd_same (by walk_at "da")
end
end Cb
end

section
set_option maxRecDepth 100000
set_option maxHeartbeats 4000000
namespace Cb
open PySem PySem.Spec PyProof.Rows L2
local macro_rules | `(tactic| walk_at "pl") => `(tactic| first
  | with_reducible assumption
  | ((with_reducible apply PoolAt.new); (with_reducible assumption); walk_at "pl")
  | ((with_reducible apply PoolAt.same'); (with_reducible assumption); walk_at "pl"))
local macro_rules | `(tactic| walk_at "hp") => `(tactic| first
  | with_reducible assumption
  | with_reducible exact upd_same
  | ((with_reducible apply upd_new); (with_reducible assumption); walk_at "hp")
  | ((with_reducible apply hp_same); (with_reducible assumption); walk_at "hp")
  | ((with_reducible apply but_tup); (with_reducible assumption); walk_at "pl"; walk_at "hp")
  | ((with_reducible apply but_lst); (with_reducible assumption); walk_at "pl"; walk_at "hp"; first | exact rfl | assumption | exact npool_app (by omega)))
local macro_rules | `(tactic| walk_at "da") => `(tactic| first
  | with_reducible assumption
  | with_reducible exact DA.int _
  | with_reducible exact DA.str _
  | with_reducible exact DA.bl _
  | with_reducible exact DA.non
  | ((with_reducible apply DA.tup); (with_reducible exact upd_same); walk_at "dal")
  | ((with_reducible apply DA.lst); (with_reducible exact upd_same); exact rfl; exact rfl; walk_at "dal")
  | with_reducible exact DA.dct upd_same
  | ((with_reducible apply DA.new); (with_reducible assumption); walk_at "da")
  | ((with_reducible apply DA.same'); (with_reducible assumption); walk_at "da")
  | ((with_reducible apply DA.but'); (with_reducible assumption); walk_at "pl"; walk_at "da"))
local macro_rules | `(tactic| walk_at "dal") => `(tactic| first
  | exact DAll.nil
  | (apply DAll.cons; walk_at "da"; walk_at "dal"))
local macro_rules | `(tactic| walk_at "ft") => `(tactic| first
  | with_reducible assumption
  | apply Fit.non'
  | apply Fit.bl'
  | (apply Fit.str (n := 20); decide +kernel)
  | (apply Fit.int'; first | decide | omega)
  | (apply Fit.tup'; walk_at "fta")
  | (apply Fit.lst'; walk_at "fta"))
local macro_rules | `(tactic| walk_at "fta") => `(tactic| first
  | apply FitAll.nil'
  | (apply FitAll.cons'; walk_at "ft"; walk_at "fta"))
local macro_rules | `(tactic| walk_at "sm") => `(tactic| first
  | with_reducible assumption
  | with_reducible exact L2.Same.refl _
  | ((with_reducible apply sm_new); (with_reducible assumption); walk_at "sm")
  | ((with_reducible apply sm_same); (with_reducible assumption); walk_at "sm"))
local macro_rules | `(tactic| walk_at "sb") => `(tactic| first
  | with_reducible assumption
  | with_reducible exact SameBut.refl _ _
  | ((with_reducible apply sb_new); (with_reducible assumption); walk_at "sb")
  | ((with_reducible apply sb_but); (with_reducible assumption); walk_at "sb")
  | ((with_reducible apply sb_same); (with_reducible assumption); walk_at "sb"))
local macro_rules | `(tactic| walk_at "sq") => `(tactic| first
  | (refine Or.inl (Or.inl ?_); walk_at "hp")
  | (refine Or.inr (Or.inl (Or.inl ?_)); walk_at "hp")
  | (refine Or.inl (Or.inl (Or.inl ?_)); walk_at "hp")
  | exact (by assumption : ∀ H', SqT _ H' _ _) _
  | exact Or.inr ((by assumption : ∀ H', SqT _ H' _ _) _))
local macro_rules | `(tactic| walk_at "dt") => `(tactic| first
  | with_reducible assumption
  | apply (by assumption : ∀ b, Dat b _ _ _ _)
  | (with_reducible apply Dat.non)
  | (with_reducible apply Dat.bl)
  | ((with_reducible apply Dat.str); first | decide +kernel | exact name_short _)
  | ((with_reducible apply Dat.int); first | decide | omega)
  | ((with_reducible apply Dat.up'); (first | (with_reducible assumption) | apply (by assumption : ∀ b, Dat b _ _ _ _)); omega)
  | ((with_reducible apply Dat.tup); (with_reducible exact upd_same); walk_at "dtl")
  | ((with_reducible apply Dat.lst); (with_reducible exact upd_same); (first | exact rfl | assumption); (first | exact rfl | assumption); walk_at "dtl")
  | ((with_reducible apply Dat.dct); with_reducible exact upd_same)
  | ((with_reducible apply Dat.new); (with_reducible assumption); walk_at "dt")
  | ((with_reducible apply Dat.same'); (with_reducible assumption); walk_at "dt")
  | ((with_reducible apply Dat.but'); (with_reducible assumption); walk_at "pl"; walk_at "dt")
  | ((with_reducible apply Dat.ofE); (with_reducible assumption); omega)
  | ((with_reducible apply Dat.leaf); (with_reducible assumption); assumption; assumption; decide; omega))
local macro_rules | `(tactic| walk_at "dtl") => `(tactic| first
  | apply DatL.nil
  | ((with_reducible apply DatL.cons); walk_at "dt"; walk_at "dtl")
  | with_reducible assumption
  | apply (by assumption : ∀ b, DatL b _ _ _ _)
  | ((with_reducible apply DatL.up'); (first | (with_reducible assumption) | apply (by assumption : ∀ b, DatL b _ _ _ _)); omega)
  | ((with_reducible apply DatL.new); (with_reducible assumption); walk_at "dtl")
  | ((with_reducible apply DatL.same'); (with_reducible assumption); walk_at "dtl")
  | ((with_reducible apply DatL.but'); (with_reducible assumption); walk_at "pl"; walk_at "dtl"))
local macro_rules | `(tactic| walk_at "al") => `(tactic| first
  | exact AllD.nil
  | ((with_reducible apply AllD.cons); walk_at "dt"; omega; walk_at "al")
  | with_reducible assumption
  | ((with_reducible apply AllD.app); walk_at "al"; walk_at "al")
  | ((with_reducible apply AllD.new); (with_reducible assumption); walk_at "al")
  | ((with_reducible apply AllD.same'); (with_reducible assumption); walk_at "al")
  | ((with_reducible apply AllD.but'); (with_reducible assumption); walk_at "pl"; walk_at "al"))
local macro_rules | `(tactic| walk_at "pt") => `(tactic| first
  | with_reducible assumption
  | ((with_reducible apply PatAt.new); (with_reducible assumption); walk_at "pt")
  | ((with_reducible apply PatAt.same'); (with_reducible assumption); walk_at "pt")
  | ((with_reducible apply PatAt.but'); (with_reducible assumption); walk_at "pl"; walk_at "pt"))
local macro_rules | `(tactic| walk_at "db") => `(tactic| first
  | with_reducible assumption
  | ((with_reducible apply DatB.new); (with_reducible assumption); walk_at "db")
  | ((with_reducible apply DatB.same'); (with_reducible assumption); walk_at "db")
  | ((with_reducible apply DatB.but'); (with_reducible assumption); walk_at "pl"; walk_at "db"))
local macro_rules | `(tactic| walk_at "st") => `(tactic| first
  | (with_reducible show upd _ _ _ _ = some _); (walk_at "hp")
  | (with_reducible show L2.Same _ _); (walk_at "sm")
  | (with_reducible refine And.intro ?_ ?_)
  | exact rfl
  | with_reducible assumption
  | (with_reducible show DA _ _ _); (walk_at "da")
  | (with_reducible show PoolAt _ _); (walk_at "pl")
  | (with_reducible show Dat _ _ _ _ _); (walk_at "dt")
  | (with_reducible show Fit _ _ _ _); (walk_at "ft")
  | (with_reducible show PatAt _ _ _); (walk_at "pt")
  | (with_reducible show SameBut _ _ _); (walk_at "sb")
  | (with_reducible show _ ≤ sizeLine); (first | exact len_line _ rfl | exact len_line2 _ _ rfl rfl | decide | omega | exact Nat.le_trans (m := 200000) (by omega) (by decide) | exact Nat.le_trans (m := 200000) (by simp only [List.length_cons, List.length_nil]; omega) (by decide))
  | (with_reducible first | show (_ : Int) ≤ _ | show (_ : Int) < _ | show (_ : Nat) ≤ _ | show (_ : Nat) < _); (first | omega | (simp only [List.length_append]; omega) | (simp only [List.length_cons, List.length_nil]; omega) | (simp only [List.length_append, List.length_cons, List.length_nil]; omega) | exact Int.lt_of_lt_of_le (by assumption) (by decide))
  | exact cut1_not _ _
  | exact List.cons_ne_nil _ _
  | exact fun h => absurd h (List.cons_ne_nil _ _)
  | exact fun h => (h rfl).elim
  | (with_reducible show DatB _ _ _ _); (walk_at "db")
  | (with_reducible show AllD _ _ _ _); (walk_at "al")
  | exact Or.inl ⟨rfl, _, Or.inl (Or.inl (by walk_at "hp"))⟩
  | exact fun h => absurd h.1 (Nat.ne_of_beq_eq_false rfl)
  | exact fun h => absurd h.2 (Nat.ne_of_beq_eq_false rfl)
  | exact at0 _ _
  | exact at1 _ _ _
  | (refine And.intro ?_ ?_)
  | (fail_if_success first | show (∃ _ : Nat → Nat → L2.St → Hp → Prop, _) | show (∃ _ : Nat → Nat → Hp → Prop, _) | show (∃ _ : Nat → L2.St → Hp → Prop, _)); (apply Exists.intro)
  | (refine iteT' rfl ?_)
  | (refine iteF' rfl ?_)
  | walk_at "sq"
  | (with_reducible show _ = some _); (walk_at "hp")
  | intro _
  | assumption)
local macro_rules | `(tactic| walk_at "rd") => `(tactic| repeat walk_at "st")
theorem inS (o : Str) (l : List Str) : inV (.str o) (l.map V.str) = decide (o ∈ l) := by
  induction l with
  | nil => rfl
  | cons x r ih =>
    show ((x == o) || inV (.str o) (r.map V.str)) = _
    rw [ih, Bool.eq_iff_iff]
    simp only [Bool.or_eq_true, beq_iff_eq, decide_eq_true_eq, List.mem_cons]
    exact ⟨fun h => h.imp Eq.symm id, fun h => h.imp Eq.symm id⟩
theorem op_of {s : Str} (h : opN (.str s) = true) : ∃ o : Op, s = o.name := by
  have h2 : (inV (.str s) ((["neg", "not"] : List Str).map V.str) || inV (.str s) ((["add", "sub", "mul", "div", "rem", "and", "or", "xor", "shl", "shr", "lt", "le", "gt", "ge", "eq", "ne"] : List Str).map V.str)) = true := h
  rw [inS, inS] at h2
  simp only [Bool.or_eq_true, decide_eq_true_eq, List.mem_cons, List.not_mem_nil, or_false] at h2
  rcases h2 with h | h
  · rcases h with h | h
    · exact ⟨.neg, h⟩
    · exact ⟨.not, h⟩
  · rcases h with h | h | h | h | h | h | h | h | h | h | h | h | h | h | h | h
    · exact ⟨.add, h⟩
    · exact ⟨.sub, h⟩
    · exact ⟨.mul, h⟩
    · exact ⟨.div, h⟩
    · exact ⟨.rem, h⟩
    · exact ⟨.and, h⟩
    · exact ⟨.or, h⟩
    · exact ⟨.xor, h⟩
    · exact ⟨.shl, h⟩
    · exact ⟨.shr, h⟩
    · exact ⟨.lt, h⟩
    · exact ⟨.le, h⟩
    · exact ⟨.gt, h⟩
    · exact ⟨.ge, h⟩
    · exact ⟨.eq, h⟩
    · exact ⟨.ne, h⟩
theorem opN_name (o : Op) : opN (.str o.name) = true := by cases o <;> rfl
theorem sgN_name (o : Op) : sgN (.str o.name) = o.single := by cases o <;> rfl
theorem fb_at {gs : List PyData} {i : Nat} {d : PyData} (h : ∀ m d, m < i → gs[m]? = some d → wordD d = true) (hi : gs[i]? = some d) (hw : wordD d = false) : firstBad 0 gs = some i := by
  rcases firstBad_spec gs 0 with ⟨_, h2⟩ | ⟨j, h1, h2, h3, d2, h4, h5⟩
  · rw [h2 d (List.mem_of_getElem? hi)] at hw
    cases hw
  · rw [h1]
    congr 1
    rcases Nat.lt_trichotomy i j with c | c | c
    · rw [h3 i d c hi] at hw
      cases hw
    · omega
    · rw [h j d2 c h4] at h5
      cases h5
theorem fb_none {gs : List PyData} (h : ∀ m d, m < gs.length → gs[m]? = some d → wordD d = true) : firstBad 0 gs = none := by
  rcases firstBad_spec gs 0 with ⟨h1, _⟩ | ⟨j, _, h2, _, d2, h4, h5⟩
  · exact h1
  · rw [h j d2 h2 h4] at h5
    cases h5
theorem out_op {wd : PyData} {gs : List PyData} (h : opN wd = false) : opOut wd gs = .err 1 wd := if_pos h
theorem out_len {wd : PyData} {gs : List PyData} (h : opN wd = true) (h2 : gs.length ≠ (if sgN wd = true then 1 else 2)) : opOut wd gs = .err 2 .none := by
  unfold opOut
  rw [if_neg (by rw [h]; decide), if_pos h2]
theorem out_bad {wd : PyData} {gs : List PyData} {i : Nat} (h : opN wd = true) (h2 : gs.length = (if sgN wd = true then 1 else 2)) (h3 : firstBad 0 gs = some i) : opOut wd gs = .err 2 (.int (i : Int)) := by
  unfold opOut
  rw [if_neg (by rw [h]; decide), if_neg (fun z => z h2), h3]
theorem out_ret {wd : PyData} {gs : List PyData} (h : opN wd = true) (h2 : gs.length = (if sgN wd = true then 1 else 2)) (h3 : firstBad 0 gs = none) : opOut wd gs = .ret := by
  unfold opOut
  rw [if_neg (by rw [h]; decide), if_neg (fun z => z h2), h3]
theorem ne_int (a b : Int) : (!decide (V.int a = V.int b)) = decide (a ≠ b) := by
  by_cases h : a = b
  · subst h
    simp
  · have h2 : ¬ V.int a = V.int b := fun z => h (V.int.inj z)
    rw [decide_eq_false h2, decide_eq_true h]
    rfl
theorem word_of {d : PyData} (h : wordD d = true) : ∃ i, d = .int i ∧ Wd i := by
  cases d with
  | int i => exact ⟨i, rfl, of_decide_eq_true h⟩
  | _ => cases h
section
variable {P : Program} {w : World} {K : PySem.W.Frag} {mg : Str → Option Value} {base : Heap} {Ad : Nat → Addr}
theorem ge_operateB (T : Txt K mg) (R : Ers K mg Ad) (g_is_word : Gives P w K mg base CX0 2 "is_word" spIsWordD) (g_result_of : Gives P w K mg base CX0 3 "result_of" spResult) :
    Gives P w K mg base (L2.CX P w) 4 "operate" (fun vs H Q E => ∃ ws rest, vs = ws ++ rest ∧ ws.length = ["operation"].length ∧ rest.length ≤ sizeLine ∧ ∀ p, H p = Option.none → spOpB Ad (ws ++ [V.ref p]) (upd H p (.tup rest)) Q E) := by
  refine givesE_star (ps := ["operation"]) (pv := "words") T.d_operate sc_operate (fun kV doc pm an cdv ct => StX.bind_star1 (B := fun l => bindArgs (PySem.W.fnOf "operate" "operate" (defArgs s_operate) (defBody s_operate) (defScope s_operate) .none kV doc pm an cdv ct) ⟨l, []⟩) (fun a => rfl) (fun a r rs => rfl)) (fun f cdv A outer s H vs Q E hr h => ?_)
  obtain ⟨v, wd, p, ws, gs, rfl, hp, hd, hds, q⟩ := h
  obtain ⟨f2, J2⟩ := R.i2
  obtain ⟨f3, J3⟩ := R.i3
  refine ⟨_, (pss_cons (ps_if (PW.pt (pw_or (pt_not (pt_val (pe_callB (call_isiD kb_str) (by rfl) T.n_isinstance (by decide +kernel) (pa_cons (pv 0) (pa_cons (pe_bltn (v := .ty "str") (by rfl) T.n_str (by decide +kernel) rfl) pa_nil))))) (pw_or1 (PW.pt (pw_and (pt_cmpR op_notIn_seq (pv 0) (pe_gt (by rfl) T.c_SINGLE) (by rfl)) (pw_and1 (pt_cmpR op_notIn_seq (pv 0) (pe_gt (by rfl) T.c_DOUBLE) (by rfl)))))))) (pss_one (ps_raiseE rfl R.e2 J2.iC J2.tC (fun v => init_value R.e2 J2 (.inl ⟨rfl, rfl⟩)) (k := 0) (hr.mono (by decide)) (takes_of rfl rfl rfl rfl) (pa_cons (pv 0) pa_nil) (by rfl))) pss_nil)
      (pss_cons (ps_if (pt_cmpR op_ne (pe_callB call_len_seq (by rfl) T.n_len (by decide +kernel) (pa_cons (pv 1) pa_nil)) (pe_ifExp (pt_cmpR op_in_seq (pv 0) (pe_gt (by rfl) T.c_SINGLE) (by rfl)) pe_int pe_int) (nomark _)) (pss_one (ps_raiseE rfl R.e3 J3.iC J3.tC (fun v => init_index R.e3 J3 (.inl ⟨rfl, rfl⟩)) (k := 0) (hr.mono (by decide)) (takes_of rfl rfl rfl rfl) (pa_cons pe_non pa_nil) (by rfl))) pss_nil)
      (pss_cons (ps_for (passes_of rfl) rfl (pi_enumT (by rfl) T.n_enumerate (pa_cons (pv 1) pa_nil)) (pg_tup (by rfl) (pgs_cons (pg_name (i := 2) sc_operate.nd rfl (Or.inl rfl)) (pgs_cons (pg_name (i := 3) sc_operate.nd rfl (Or.inl rfl)) pgs_nil))) (pss_one (ps_if (pt_not (pt_val (pe_own g_is_word (hr.mono (by decide)) (by rfl) pass0 (pa_cons (pv 3) pa_nil)))) (pss_one (ps_raiseE rfl R.e3 J3.iC J3.tC (fun v => init_index R.e3 J3 (.inl ⟨rfl, rfl⟩)) (k := 0) (hr.mono (by decide)) (takes_of rfl rfl rfl rfl) (pa_cons (pv 2) pa_nil) (by rfl))) pss_nil)))
      (pss_one (ps_ret (pe_own g_result_of (hr.mono (by decide)) (by rfl) pass0 (pa_cons (pv 0) (pa_cons (pe_ix ix_tup (pv 1) pe_int (fun _ _ => rfl)) (pa_cons (pe_ix ix_tup (pv 1) (pe_negc (-1) (by decide)) (fun _ _ => rfl)) pa_nil))))))))), ?_⟩
  have hlen : ws.length = gs.length := hds.length
  cases ho : opN wd with
  | false =>
    rw [out_op ho] at q
    have q : ∀ H' dd v, L2.Same H H' → H' dd = some (.xd [("value", v)]) → DA H' v wd → E (.ref (Ad 2)) (some dd) H' := q
    walk_at "rd"
    refine ite2 (fun c => ?_) (fun c => ?_)
    · walk_at "rd"
      exact q _ _ _ (by walk_at "sm") upd_same (by walk_at "da")
    obtain ⟨o, rfl⟩ := str_of c
    cases hd
    obtain ⟨o1, o2⟩ := Bool.or_eq_false_iff.mp (show (inV (.str o) sgl2 || inV (.str o) dbl16) = false from ho)
    walk_at "rd"
    refine iteT' (by show (!inV (.str o) sgl2) = true; rw [o1]; rfl) ?_
    walk_at "rd"
    refine iteT' (by show (!inV (.str o) dbl16) = true; rw [o2]; rfl) ?_
    walk_at "rd"
    exact q _ _ _ (by walk_at "sm") upd_same (by walk_at "da")
  | true =>
    have hs : isStr wd = true := by
      cases wd with
      | str o => rfl
      | _ => cases ho
    obtain ⟨o, rfl⟩ : ∃ o, wd = .str o := by
      cases wd with
      | str o => exact ⟨o, rfl⟩
      | _ => cases ho
    cases hd
    refine seq_then (fun σ' H' => σ' = [some (.str o), some (.ref p), none, none] ∧ L2.Same H H') ?_ (fun U hU => ?_)
    rotate_left
    · walk_at "rd"
      cases hsg : inV (.str o) sgl2 with
      | true =>
        refine iteF' rfl ?_
        walk_at "rd"
        exact hU _ _ ⟨rfl, by walk_at "sm"⟩
      | false =>
        have o2 : inV (.str o) dbl16 = true := by
          have z : (inV (.str o) sgl2 || inV (.str o) dbl16) = true := ho
          rw [hsg] at z
          exact z
        refine iteT' rfl ?_
        walk_at "rd"
        refine iteF' (by show (!inV (.str o) dbl16) = false; rw [o2]; rfl) ?_
        walk_at "rd"
        exact hU _ _ ⟨rfl, by walk_at "sm"⟩
    rintro σ' H1 ⟨rfl, s1⟩
    have hp1 : H1 p = some (.tup ws) := s1 _ _ hp
    have hds1 := hds.same s1
    have q1 := Ends3.up q s1
    clear q hds hp s1
    refine seq_then (fun σ' H' => σ' = [some (.str o), some (.ref p), none, none] ∧ L2.Same H1 H' ∧ gs.length = (if sgN (.str o) = true then 1 else 2)) ?_ (fun U hU => ?_)
    rotate_left
    · walk_at "rd"
      refine ite2 (fun c => ?_) (fun c => ?_)
      · have hsg : sgN (.str o) = true := c
        walk_at "rd"
        refine ite2 (fun c2 => ?_) (fun c2 => ?_)
        · have c3 := of_decide_eq_true ((ne_int _ _).symm.trans c2)
          rw [out_len ho (by rw [hsg, if_pos rfl]; omega)] at q1
          have q1 : ∀ H' dd v, L2.Same H1 H' → H' dd = some (.xd [("index", v)]) → DA H' v .none → E (.ref (Ad 3)) (some dd) H' := q1
          walk_at "rd"
          exact q1 _ _ _ (by walk_at "sm") upd_same .non
        · have c3 : ¬ ((ws.length : Int) ≠ 1) := fun z => c2 ((ne_int _ _).trans (decide_eq_true z))
          walk_at "rd"
          exact hU _ _ ⟨rfl, by walk_at "sm", by rw [hsg, if_pos rfl]; omega⟩
      · have hsg : ¬ sgN (.str o) = true := c
        walk_at "rd"
        refine ite2 (fun c2 => ?_) (fun c2 => ?_)
        · have c3 := of_decide_eq_true ((ne_int _ _).symm.trans c2)
          rw [out_len ho (by rw [if_neg hsg]; omega)] at q1
          have q1 : ∀ H' dd v, L2.Same H1 H' → H' dd = some (.xd [("index", v)]) → DA H' v .none → E (.ref (Ad 3)) (some dd) H' := q1
          walk_at "rd"
          exact q1 _ _ _ (by walk_at "sm") upd_same .non
        · have c3 : ¬ ((ws.length : Int) ≠ 2) := fun z => c2 ((ne_int _ _).trans (decide_eq_true z))
          walk_at "rd"
          exact hU _ _ ⟨rfl, by walk_at "sm", by rw [if_neg hsg]; omega⟩
    rintro σ' H2 ⟨rfl, s2, hgl⟩
    have hp2 : H2 p = some (.tup ws) := s2 _ _ hp1
    have hds2 := hds1.same s2
    have q2 := Ends3.up q1 s2
    clear q1 hds1 hp1 s2 H1
    have sT : ∀ H', L2.Same H2 H' → SqT K H' p ws := fun H' s' => .inl (.inl (s' _ _ hp2))
    refine ⟨_, rfl, p, ws, rfl, sT _ (L2.Same.refl _), ?_⟩
    refine for_enumT (xs := ws) (fun i σ H' => L2.Same H2 H' ∧ (∀ m d, m < i → gs[m]? = some d → wordD d = true) ∧ ∃ y2 y3, σ = [some (.str o), some (.ref p), y2, y3]) ⟨L2.Same.refl _, fun m _ h => absurd h (Nat.not_lt_zero _), none, none, rfl⟩ (fun i σ H' _ h => sT _ h.1) (fun i x σ H' U hxi hP hU => ?_) (fun σ H' hP => ?_)
    · obtain ⟨sm, hw, y2, y3, rfl⟩ := hP
      obtain ⟨d, hdi, hdx⟩ := dall_at hds2 hxi
      have hdx' : DA (upd H' U (.tup [V.int (i : Nat), x])) x d := (hdx.same sm).new hU
      refine ⟨U, _, rfl, .inl (.inl upd_same), rfl, _, _, rfl, _, _, rfl, rfl, ?_⟩
      walk_at "rd"
      cases hwd : wordD d with
      | true =>
        refine iteF' rfl ?_
        refine ⟨L2.Same.trans sm (same_upd hU), fun m e hm he => ?_, _, _, rfl⟩
        rcases Nat.lt_succ_iff_lt_or_eq.mp hm with z | z
        · exact hw m e z he
        · rw [z, hdi] at he
          cases he
          exact hwd
      | false =>
        refine iteT' rfl ?_
        rw [out_bad ho hgl (fb_at hw hdi hwd)] at q2
        have q2 : ∀ H' dd v, L2.Same H2 H' → H' dd = some (.xd [("index", v)]) → DA H' v (.int (i : Int)) → E (.ref (Ad 3)) (some dd) H' := q2
        walk_at "rd"
        exact q2 _ _ _ (L2.Same.trans sm (by walk_at "sm")) upd_same (DA.int _)
    · obtain ⟨sm, hw, y2, y3, rfl⟩ := hP
      rw [out_ret ho hgl (fb_none (by rw [← hlen]; exact hw))] at q2
      have q2 : ∀ H' r, L2.Same H2 H' → Q r H' := q2
      obtain ⟨op, rfl⟩ := op_of ho
      have allw : ∀ (m : Nat) (x : V), ws[m]? = some x → ∃ i : Int, x = V.int i ∧ Wd i := by
        intro m x hx
        obtain ⟨d, hdi, hdx⟩ := dall_at hds2 hx
        obtain ⟨i, rfl, hi⟩ := word_of (hw m d (List.getElem?_eq_some_iff.mp hx).1 hdi)
        cases hdx
        exact ⟨i, rfl, hi⟩
      match ws, hlen with
      | [], hlen =>
        have : (0 : Nat) = gs.length := hlen
        rw [hgl] at this
        split at this <;> cases this
      | [x], hlen =>
        obtain ⟨i, rfl, hi⟩ := allw 0 x rfl
        have sT := sT _ sm
        refine ⟨_, rfl, _, rfl, p, _, 0, .int i, rfl, rfl, sT, rfl, _, rfl, p, _, -1, .int i, rfl, rfl, sT, rfl, op, i, i, rfl, hi, hi, fun H3 s3 => q2 _ _ (L2.Same.trans sm s3)⟩
      | [x, y], hlen =>
        obtain ⟨i, rfl, hi⟩ := allw 0 x rfl
        obtain ⟨j, rfl, hj⟩ := allw 1 y rfl
        have sT := sT _ sm
        refine ⟨_, rfl, _, rfl, p, _, 0, .int i, rfl, rfl, sT, rfl, _, rfl, p, _, -1, .int j, rfl, rfl, sT, rfl, op, i, j, rfl, hi, hj, fun H3 s3 => q2 _ _ (L2.Same.trans sm s3)⟩
      | _ :: _ :: _ :: r, hlen =>
        have : r.length + 3 = gs.length := hlen
        rw [hgl] at this
        split at this <;> omega
theorem ge_operate (F : Gives P w K mg base (L2.CX P w) 4 "operate" (fun vs H Q E => ∃ ws rest, vs = ws ++ rest ∧ ws.length = ["operation"].length ∧ rest.length ≤ sizeLine ∧ ∀ p, H p = Option.none → spOpB Ad (ws ++ [V.ref p]) (upd H p (.tup rest)) Q E)) : Gives P w K mg base (L2.CX P w) 4 "operate" (spOpE Ad) :=
  F.imp fun vs H Q E ⟨v, wd, ws, gs, e, hl, hd, hds, q⟩ => ⟨[v], ws, e, rfl, Nat.le_trans hl (by decide), fun p np => ⟨v, wd, p, ws, gs, rfl, upd_same, hd.new np, hds.same (same_upd np), Ends3.up q (same_upd np)⟩⟩
end
end Cb
end

section
set_option maxRecDepth 100000
set_option maxHeartbeats 4000000
namespace Cb
open PySem PySem.Spec PyProof.Rows L2
/-- a datum that is no name of an operation -/
def Dno (b : Bool) (n m : Nat) (H : Hp) (v : V) : Prop := ∃ d, DA H v d ∧ Fit b n m d ∧ opN d = false
theorem Dno.same' {b : Bool} {n m : Nat} {H H' : Hp} {v : V} (s : L2.Same H H') (h : Dno b n m H v) : Dno b n m H' v := by
  obtain ⟨d, h1, h2⟩ := h
  exact ⟨d, h1.same s, h2⟩
theorem Dno.new {b : Bool} {n m : Nat} {H : Hp} {p : Addr} {u : HO} {v : V} (e : H p = none) (h : Dno b n m H v) : Dno b n m (upd H p u) v := Dno.same' (same_upd e) h
theorem Dno.but' {b : Bool} {n m : Nat} {H H' : Hp} {c : Addr} {v : V} (s : SameBut c H H') (hc : PoolAt H c) (h : Dno b n m H v) : Dno b n m H' v := by
  obtain ⟨d, h1, h2⟩ := h
  exact ⟨d, h1.but hc s, h2⟩
theorem Dno.non {b : Bool} {m : Nat} {H : Hp} : Dno b 4 m H .non := ⟨_, .non, .non', rfl⟩
theorem Dno.bl {b x : Bool} {m : Nat} {H : Hp} : Dno b 5 m H (.bl x) := ⟨_, .bl x, .bl', rfl⟩
theorem Dno.int {b : Bool} {m : Nat} {H : Hp} {i : Int} (hi : i.natAbs < 2 ^ 40) : Dno b 42 m H (.int i) := ⟨_, .int i, .int' hi, rfl⟩
theorem Dno.str {b : Bool} {m : Nat} {H : Hp} {x : Str} (hx : (PyData.str x).shown.length ≤ 20 ∧ okd (.str x) = true) (hn : opN (.str x) = false) : Dno b 20 m H (.str x) := ⟨_, .str x, .str hx, hn⟩
theorem Dno.tup {b : Bool} {n m : Nat} {H : Hp} {a : Addr} {vs : List V} (e : H a = some (.tup vs)) (h : DatL b n m H vs) : Dno b (n + 4) (m + 1) H (.ref a) := by
  obtain ⟨ds, h1, h2⟩ := h
  exact ⟨.tuple ds, .tup e h1, .tup' h2, rfl⟩
theorem Dno.lst {n m : Nat} {H : Hp} {a : Addr} {vs : List V} (e : H a = some (.lst vs)) (np : npool vs = true) (hs : few 3 vs = true) (h : DatL false n m H vs) : Dno false (n + 4) (m + 1) H (.ref a) := by
  obtain ⟨ds, h1, h2⟩ := h
  exact ⟨.list ds, .lst e np hs h1, .lst' h2, rfl⟩
theorem Dno.dct {m : Nat} {H : Hp} {a : Addr} (e : H a = some (.dK [])) : Dno true 2 (m + 1) H (.ref a) := ⟨_, .dct e, .dct (Nat.le_refl _) (Nat.le_add_left _ _), rfl⟩
theorem Dno.mono {b : Bool} {n m k j : Nat} {H : Hp} {v : V} (h : Dno b n m H v) (e : n ≤ k) (e2 : m ≤ j) : Dno b k j H v := by
  obtain ⟨d, h1, h2, h3⟩ := h
  exact ⟨d, h1, h2.mono e e2, h3⟩
def AllN (n m : Nat) (H : Hp) (xs : List V) : Prop := ∀ x ∈ xs, ∃ b, Dno b n m H x
theorem AllN.nil {n m : Nat} {H : Hp} : AllN n m H [] := fun _ h => nomatch h
theorem AllN.cons {b : Bool} {n k m : Nat} {H : Hp} {x : V} {xs : List V} (h : Dno b k m H x) (e : k ≤ n) (t : AllN n m H xs) : AllN n m H (x :: xs) := fun y hy => by
  rcases List.mem_cons.mp hy with z | z
  · rw [z]
    exact ⟨b, h.mono e (Nat.le_refl _)⟩
  · exact t y z
theorem AllN.app {n m : Nat} {H : Hp} {xs ys : List V} (h : AllN n m H xs) (t : AllN n m H ys) : AllN n m H (xs ++ ys) := fun y hy => by
  rcases List.mem_append.mp hy with z | z
  · exact h y z
  · exact t y z
theorem AllN.same' {n m : Nat} {H H' : Hp} {v : List V} (s : L2.Same H H') (h : AllN n m H v) : AllN n m H' v := fun y hy => by
  obtain ⟨b, z⟩ := h y hy
  exact ⟨b, z.same' s⟩
theorem AllN.new {n m : Nat} {H : Hp} {p : Addr} {u : HO} {v : List V} (e : H p = none) (h : AllN n m H v) : AllN n m (upd H p u) v := AllN.same' (same_upd e) h
theorem AllN.but' {n m : Nat} {H H' : Hp} {c : Addr} {v : List V} (s : SameBut c H H') (hc : PoolAt H c) (h : AllN n m H v) : AllN n m H' v := fun y hy => by
  obtain ⟨b, z⟩ := h y hy
  exact ⟨b, z.but' s hc⟩
theorem pe_d1 {X : Cx} {k : Str} {i : Int} {j1 j2 : Nat} {p1 p2 pos : Pos} : PE X (.Dict [some (.Constant (.str k) j1 p1)] [.Constant (.int i) j2 p2] pos) (fun σ H Q => ∀ p, H p = none → Q (.ref p) (upd H p (.dK [(.inr k, .int i)]))) :=
  PE.imp (pe_disp (pps_cons pe_str pe_int pps_nil) rfl rfl (by simp) (by show 1 ≤ 15; decide)) fun σ H Q z p np => ⟨upd_same, [(.inr k, .int i)], rfl, by show 1 ≤ 15; decide, by rw [upd_upd]; exact z p np⟩
def spWay : Sp := fun vs H Q _ => ∃ c : Addr, vs = [.ref c] ∧ PoolAt H c ∧ ∀ H' (o : Op), SameBut c H H' → PoolAt H' c → Q (.str o.name) H'
def spOdd : Sp := fun vs H Q _ => ∃ c : Addr, vs = [.ref c] ∧ PoolAt H c ∧ ∀ H' r b, SameBut c H H' → PoolAt H' c → Dat b 300 6 H' r → Q r H'
def spNoWay : Sp := fun vs H Q _ => ∃ c : Addr, vs = [.ref c] ∧ PoolAt H c ∧ ∀ H' r b, SameBut c H H' → PoolAt H' c → Dno b 300 6 H' r → Q r H'
def ops18 : List Op := [.add, .sub, .mul, .div, .rem, .and, .or, .xor, .shl, .shr, .lt, .le, .gt, .ge, .eq, .ne, .neg, .not]
theorem way18 {x : V} (h : x ∈ ops18.map fun o => V.str o.name) : ∃ o : Op, x = .str o.name := by
  obtain ⟨o, _, e⟩ := List.mem_map.mp h
  exact ⟨o, e.symm⟩
def badIx (gs : List PyData) : Nat → List Int
  | 0 => []
  | i + 1 => if (gs[i]?).any wordD = true then badIx gs i else badIx gs i ++ [(i : Int)]
theorem badIx_nil {gs : List PyData} : ∀ n, (∀ m, m < n → (gs[m]?).any wordD = true) → badIx gs n = []
  | 0, _ => rfl
  | n + 1, h => by
    show (if (gs[n]?).any wordD = true then badIx gs n else badIx gs n ++ [(n : Int)]) = []
    rw [if_pos (h n (Nat.lt_succ_self _))]
    exact badIx_nil n fun m hm => h m (Nat.lt_succ_of_lt hm)
theorem badIx_at {gs : List PyData} {j : Nat} (h : ∀ m, m < j → (gs[m]?).any wordD = true) (hj : (gs[j]?).any wordD = false) : ∀ n, j < n → ∃ r, badIx gs n = (j : Int) :: r
  | 0, hn => absurd hn (Nat.not_lt_zero _)
  | n + 1, hn => by
    show ∃ r, (if (gs[n]?).any wordD = true then badIx gs n else badIx gs n ++ [(n : Int)]) = (j : Int) :: r
    rcases Nat.lt_succ_iff_lt_or_eq.mp hn with c | c
    · obtain ⟨r, e⟩ := badIx_at h hj n c
      rw [e]
      split
      · exact ⟨r, rfl⟩
      · exact ⟨r ++ [(n : Int)], rfl⟩
    · subst c
      rw [if_neg (by rw [hj]; decide), badIx_nil j h]
      exact ⟨[], rfl⟩
theorem badIx_len {gs : List PyData} : ∀ n, (badIx gs n).length ≤ n
  | 0 => Nat.zero_le _
  | n + 1 => by
    have := badIx_len (gs := gs) n
    show (if (gs[n]?).any wordD = true then badIx gs n else badIx gs n ++ [(n : Int)]).length ≤ n + 1
    split
    · omega
    · rw [List.length_append]
      show _ + 1 ≤ _
      omega
/-- what a caught call is told as -/
def dueOf : Outc → List V
  | .ret => [.str "none", .str ""]
  | .err k d => [.int (k : Int), .str d.shown]
theorem free_of {H H1 : Hp} {p : Addr} (s : L2.Same H H1) (n : H1 p = none) : H p = none := by
  cases e : H p with
  | none => rfl
  | some o =>
    rw [s _ _ e] at n
    cases n
def spDue : Sp := fun vs H Q _ => ∃ (o : Op) (l : Addr) (ws : List V) (gs : List PyData), vs = [.str o.name, .ref l] ∧ H l = some (.lst ws) ∧ ws.length ≤ 4 ∧ DAll H ws gs ∧ ∀ H' l', L2.Same H H' → H l' = none → H' l' = some (.lst (dueOf (opOut (.str o.name) gs))) → Q (.ref l') H'
theorem ixK {X : Cx} {K : PySem.W.Frag} (h : X.K = K) : IxR X (rIxL K) := h ▸ ix_list
theorem AllD_mem {n m : Nat} {H : Hp} {xs : List V} {x : V} (h : AllD n m H xs) (hx : x ∈ xs) : ∃ b, Dat b n m H x := h x hx
theorem AllN_mem {n m : Nat} {H : Hp} {xs : List V} {x : V} (h : AllN n m H xs) (hx : x ∈ xs) : ∃ b, Dno b n m H x := h x hx
theorem units64 {k : Nat} {A : Around} (r : Room k A) : A.units + 64 < cLine := by
  have := r.un
  omega
theorem unitsN {k : Nat} {A : Around} (r : Room k A) : A.units + (100 + 1) < cLine := by
  have := r.un
  omega
local macro_rules | `(tactic| walk_at "pl") => `(tactic| first
  | with_reducible assumption
  | ((with_reducible apply PoolAt.new); (with_reducible assumption); walk_at "pl")
  | ((with_reducible apply PoolAt.same'); (with_reducible assumption); walk_at "pl"))
local macro_rules | `(tactic| walk_at "hp") => `(tactic| first
  | with_reducible assumption
  | with_reducible exact upd_same
  | ((with_reducible apply upd_new); (with_reducible assumption); walk_at "hp")
  | ((with_reducible apply hp_same); (with_reducible assumption); walk_at "hp")
  | ((with_reducible apply but_tup); (with_reducible assumption); walk_at "pl"; walk_at "hp")
  | ((with_reducible apply but_lst); (with_reducible assumption); walk_at "pl"; walk_at "hp"; first | exact rfl | assumption | exact npool_app (by omega)))
local macro_rules | `(tactic| walk_at "da") => `(tactic| first
  | with_reducible assumption
  | with_reducible exact DA.int _
  | with_reducible exact DA.str _
  | with_reducible exact DA.bl _
  | with_reducible exact DA.non
  | ((with_reducible apply DA.tup); (with_reducible exact upd_same); walk_at "dal")
  | ((with_reducible apply DA.lst); (with_reducible exact upd_same); exact rfl; exact rfl; walk_at "dal")
  | with_reducible exact DA.dct upd_same
  | ((with_reducible apply DA.new); (with_reducible assumption); walk_at "da")
  | ((with_reducible apply DA.same'); (with_reducible assumption); walk_at "da")
  | ((with_reducible apply DA.but'); (with_reducible assumption); walk_at "pl"; walk_at "da"))
local macro_rules | `(tactic| walk_at "dal") => `(tactic| first
  | exact DAll.nil
  | (apply DAll.cons; walk_at "da"; walk_at "dal"))
local macro_rules | `(tactic| walk_at "ft") => `(tactic| first
  | with_reducible assumption
  | apply Fit.non'
  | apply Fit.bl'
  | (apply Fit.str (n := 20); decide +kernel)
  | (apply Fit.int'; first | decide | omega)
  | (apply Fit.tup'; walk_at "fta")
  | (apply Fit.lst'; walk_at "fta"))
local macro_rules | `(tactic| walk_at "fta") => `(tactic| first
  | apply FitAll.nil'
  | (apply FitAll.cons'; walk_at "ft"; walk_at "fta"))
local macro_rules | `(tactic| walk_at "sm") => `(tactic| first
  | with_reducible assumption
  | with_reducible exact L2.Same.refl _
  | ((with_reducible apply sm_new); (with_reducible assumption); walk_at "sm")
  | ((with_reducible apply sm_same); (with_reducible assumption); walk_at "sm"))
local macro_rules | `(tactic| walk_at "sb") => `(tactic| first
  | with_reducible assumption
  | with_reducible exact SameBut.refl _ _
  | ((with_reducible apply sb_new); (with_reducible assumption); walk_at "sb")
  | ((with_reducible apply sb_but); (with_reducible assumption); walk_at "sb")
  | ((with_reducible apply sb_same); (with_reducible assumption); walk_at "sb"))
local macro_rules | `(tactic| walk_at "sq") => `(tactic| first
  | (refine Or.inl (Or.inl ?_); walk_at "hp")
  | (refine Or.inr (Or.inl (Or.inl ?_)); walk_at "hp")
  | (refine Or.inl (Or.inl (Or.inl ?_)); walk_at "hp")
  | exact (by assumption : ∀ H', SqT _ H' _ _) _
  | exact Or.inr ((by assumption : ∀ H', SqT _ H' _ _) _))
local macro_rules | `(tactic| walk_at "dt") => `(tactic| first
  | with_reducible assumption
  | apply (by assumption : ∀ b, Dat b _ _ _ _)
  | (with_reducible apply Dat.non)
  | (with_reducible apply Dat.bl)
  | ((with_reducible apply Dat.str); first | decide +kernel | exact name_short _)
  | ((with_reducible apply Dat.int); first | decide | omega)
  | ((with_reducible apply Dat.intW); decide)
  | ((with_reducible apply Dat.dc1); with_reducible exact upd_same)
  | ((with_reducible apply Dat.up'); (first | (with_reducible assumption) | apply (by assumption : ∀ b, Dat b _ _ _ _)); omega)
  | ((with_reducible apply Dat.tup); (with_reducible exact upd_same); walk_at "dtl")
  | ((with_reducible apply Dat.lst); (with_reducible exact upd_same); (first | exact rfl | assumption); (first | exact rfl | assumption); walk_at "dtl")
  | ((with_reducible apply Dat.dct); with_reducible exact upd_same)
  | ((with_reducible apply Dat.new); (with_reducible assumption); walk_at "dt")
  | ((with_reducible apply Dat.same'); (with_reducible assumption); walk_at "dt")
  | ((with_reducible apply Dat.but'); (with_reducible assumption); walk_at "pl"; walk_at "dt")
  | ((with_reducible apply Dat.ofE); (with_reducible assumption); omega)
  | ((with_reducible apply Dat.leaf); (with_reducible assumption); assumption; assumption; decide; omega))
local macro_rules | `(tactic| walk_at "dtl") => `(tactic| first
  | apply DatL.nil
  | ((with_reducible apply DatL.cons); walk_at "dt"; walk_at "dtl")
  | with_reducible assumption
  | apply (by assumption : ∀ b, DatL b _ _ _ _)
  | ((with_reducible apply DatL.up'); (first | (with_reducible assumption) | apply (by assumption : ∀ b, DatL b _ _ _ _)); omega)
  | ((with_reducible apply DatL.new); (with_reducible assumption); walk_at "dtl")
  | ((with_reducible apply DatL.same'); (with_reducible assumption); walk_at "dtl")
  | ((with_reducible apply DatL.but'); (with_reducible assumption); walk_at "pl"; walk_at "dtl"))
local macro_rules | `(tactic| walk_at "al") => `(tactic| first
  | exact AllD.nil
  | ((with_reducible apply AllD.cons); walk_at "dt"; omega; walk_at "al")
  | with_reducible assumption
  | ((with_reducible apply AllD.app); walk_at "al"; walk_at "al")
  | ((with_reducible apply AllD.new); (with_reducible assumption); walk_at "al")
  | ((with_reducible apply AllD.same'); (with_reducible assumption); walk_at "al")
  | ((with_reducible apply AllD.but'); (with_reducible assumption); walk_at "pl"; walk_at "al"))
local macro_rules | `(tactic| walk_at "pt") => `(tactic| first
  | with_reducible assumption
  | ((with_reducible apply PatAt.new); (with_reducible assumption); walk_at "pt")
  | ((with_reducible apply PatAt.same'); (with_reducible assumption); walk_at "pt")
  | ((with_reducible apply PatAt.but'); (with_reducible assumption); walk_at "pl"; walk_at "pt"))
local macro_rules | `(tactic| walk_at "db") => `(tactic| first
  | with_reducible assumption
  | ((with_reducible apply DatB.new); (with_reducible assumption); walk_at "db")
  | ((with_reducible apply DatB.same'); (with_reducible assumption); walk_at "db")
  | ((with_reducible apply DatB.but'); (with_reducible assumption); walk_at "pl"; walk_at "db"))
local macro_rules | `(tactic| walk_at "dn") => `(tactic| first
  | with_reducible assumption
  | (with_reducible apply Dno.non)
  | (with_reducible apply Dno.bl)
  | ((with_reducible apply Dno.str); decide +kernel; exact rfl)
  | ((with_reducible apply Dno.int); decide)
  | ((with_reducible apply Dno.tup); (with_reducible exact upd_same); walk_at "dtl")
  | ((with_reducible apply Dno.lst); (with_reducible exact upd_same); exact rfl; exact rfl; walk_at "dtl")
  | ((with_reducible apply Dno.dct); with_reducible exact upd_same)
  | ((with_reducible apply Dno.new); (with_reducible assumption); walk_at "dn")
  | ((with_reducible apply Dno.same'); (with_reducible assumption); walk_at "dn")
  | ((with_reducible apply Dno.but'); (with_reducible assumption); walk_at "pl"; walk_at "dn"))
local macro_rules | `(tactic| walk_at "an") => `(tactic| first
  | exact AllN.nil
  | ((with_reducible apply AllN.cons); walk_at "dn"; omega; walk_at "an")
  | with_reducible assumption
  | ((with_reducible apply AllN.app); walk_at "an"; walk_at "an")
  | ((with_reducible apply AllN.new); (with_reducible assumption); walk_at "an")
  | ((with_reducible apply AllN.same'); (with_reducible assumption); walk_at "an")
  | ((with_reducible apply AllN.but'); (with_reducible assumption); walk_at "pl"; walk_at "an"))
local macro_rules | `(tactic| walk_at "st") => `(tactic| first
  | (with_reducible show upd _ _ _ _ = some _); (walk_at "hp")
  | (with_reducible show L2.Same _ _); (walk_at "sm")
  | (with_reducible refine And.intro ?_ ?_)
  | exact rfl
  | with_reducible assumption
  | (with_reducible show DA _ _ _); (walk_at "da")
  | (with_reducible show PoolAt _ _); (walk_at "pl")
  | (with_reducible show Dat _ _ _ _ _); (walk_at "dt")
  | (with_reducible show Fit _ _ _ _); (walk_at "ft")
  | (with_reducible show PatAt _ _ _); (walk_at "pt")
  | (with_reducible show SameBut _ _ _); (walk_at "sb")
  | (with_reducible show _ ≤ sizeLine); (first | exact len_line _ rfl | exact len_line2 _ _ rfl rfl | decide | omega | exact Nat.le_trans (m := 200000) (by omega) (by decide) | exact Nat.le_trans (m := 200000) (by simp only [List.length_cons, List.length_nil]; omega) (by decide))
  | (with_reducible first | show (_ : Int) ≤ _ | show (_ : Int) < _ | show (_ : Nat) ≤ _ | show (_ : Nat) < _); (first | omega | (simp only [List.length_append]; omega) | (simp only [List.length_cons, List.length_nil]; omega) | (simp only [List.length_append, List.length_cons, List.length_nil]; omega) | exact Int.lt_of_lt_of_le (by assumption) (by decide))
  | exact cut1_not _ _
  | exact List.cons_ne_nil _ _
  | exact fun h => absurd h (List.cons_ne_nil _ _)
  | exact fun h => (h rfl).elim
  | (with_reducible show DatB _ _ _ _); (walk_at "db")
  | (with_reducible show AllD _ _ _ _); (walk_at "al")
  | exact Or.inl ⟨rfl, _, Or.inl (Or.inl (by walk_at "hp"))⟩
  | exact fun h => absurd h.1 (Nat.ne_of_beq_eq_false rfl)
  | exact fun h => absurd h.2 (Nat.ne_of_beq_eq_false rfl)
  | exact at0 _ _
  | exact at1 _ _ _
  | (refine And.intro ?_ ?_)
  | (fail_if_success first | show (∃ _ : Nat → Nat → L2.St → Hp → Prop, _) | show (∃ _ : Nat → Nat → Hp → Prop, _) | show (∃ _ : Nat → L2.St → Hp → Prop, _) | show (∃ (_ : PyData) (_ : PyData), _) | show (∃ (_ : Addr) (_ : List V) (_ : V) (_ : Nat) (_ : V), _)); (apply Exists.intro)
  | (refine iteT' rfl ?_)
  | (refine iteF' rfl ?_)
  | walk_at "sq"
  | (with_reducible show _ = some _); (walk_at "hp")
  | intro _
  | assumption)
local macro_rules | `(tactic| walk_at "rd") => `(tactic| repeat walk_at "st")
section
variable {P : Program} {w : World} {K : PySem.W.Frag} {mg : Str → Option Value} {base : Heap} {Ad : Nat → Addr}
theorem ge_law_asked (T : Txt K mg) (R : Ers K mg Ad) (g_operate : Gives P w K mg base (L2.CX P w) 4 "operate" (spOpE Ad)) : Gives P w K mg base (L2.CX P w) 5 "_law_asked" (spAsked Ad) := by
  refine givesE_fun T.d_law_asked sc_law_asked (fun _ _ _ _ _ _ us hl => match us, hl with | [_, _], _ => rfl) (fun vs H Q E h => ?_) (fun f cdv A outer s H vs Q E hr h => ?_)
  · obtain ⟨v, wd, l, ws, gs, rfl, _⟩ := h
    rfl
  · obtain ⟨v, wd, l, ws, gs, rfl, hl, h4, hd, hds, q⟩ := h
    refine ⟨_, (pss_cons (ps_if (pt_cmpR op_eq (pe_callB call_len_seq (by rfl) T.n_len (by decide +kernel) (pa_cons (pv 1) pa_nil)) pe_int (nomark _)) (pss_one (ps_ret (pe_own g_operate (hr.mono (by decide)) (by rfl) (passX rfl rfl rfl rfl) (pa_cons (pv 0) pa_nil)))) pss_nil)
      (pss_cons (ps_if (pt_cmpR op_eq (pe_callB call_len_seq (by rfl) T.n_len (by decide +kernel) (pa_cons (pv 1) pa_nil)) pe_int (nomark _)) (pss_one (ps_ret (pe_own g_operate (hr.mono (by decide)) (by rfl) (passX rfl rfl rfl rfl) (pa_cons (pv 0) (pa_cons (pe_ix ix_list (pv 1) pe_int (fun _ _ => rfl)) pa_nil))))) pss_nil)
      (pss_cons (ps_if (pt_cmpR op_eq (pe_callB call_len_seq (by rfl) T.n_len (by decide +kernel) (pa_cons (pv 1) pa_nil)) pe_int (nomark _)) (pss_one (ps_ret (pe_own g_operate (hr.mono (by decide)) (by rfl) (passX rfl rfl rfl rfl) (pa_cons (pv 0) (pa_cons (pe_ix ix_list (pv 1) pe_int (fun _ _ => rfl)) (pa_cons (pe_ix ix_list (pv 1) pe_int (fun _ _ => rfl)) pa_nil)))))) pss_nil)
      (pss_cons (ps_if (pt_cmpR op_eq (pe_callB call_len_seq (by rfl) T.n_len (by decide +kernel) (pa_cons (pv 1) pa_nil)) pe_int (nomark _)) (pss_one (ps_ret (pe_own g_operate (hr.mono (by decide)) (by rfl) (passX rfl rfl rfl rfl) (pa_cons (pv 0) (pa_cons (pe_ix ix_list (pv 1) pe_int (fun _ _ => rfl)) (pa_cons (pe_ix ix_list (pv 1) pe_int (fun _ _ => rfl)) (pa_cons (pe_ix ix_list (pv 1) pe_int (fun _ _ => rfl)) pa_nil))))))) pss_nil)
      (pss_one (ps_ret (pe_own g_operate (hr.mono (by decide)) (by rfl) (passX rfl rfl rfl rfl) (pa_cons (pv 0) (pa_cons (pe_ix ix_list (pv 1) pe_int (fun _ _ => rfl)) (pa_cons (pe_ix ix_list (pv 1) pe_int (fun _ _ => rfl)) (pa_cons (pe_ix ix_list (pv 1) pe_int (fun _ _ => rfl)) (pa_cons (pe_ix ix_list (pv 1) pe_int (fun _ _ => rfl)) pa_nil)))))))))))), ?_⟩
    match ws, h4, hds, hl with
    | [], _, hds, hl =>
      walk_at "rd"
    | [x], _, hds, hl =>
      walk_at "rd"
    | [x, y], _, hds, hl =>
      walk_at "rd"
    | [x, y, z], _, hds, hl =>
      walk_at "rd"
    | [x, y, z, u], _, hds, hl =>
      walk_at "rd"
    | _ :: _ :: _ :: _ :: _ :: r, h4, hds, hl => exact absurd h4 (by simp)
theorem g_law_way (T : Txt K mg) (g_law_draw : Gives P w K mg base CX0 1 "_law_draw" spDraw) : Gives P w K mg base CX0 2 "_law_way" spWay := by
  refine gives_fun T.d_law_way sc_law_way (fun _ _ _ _ _ _ us hl => match us, hl with | [_], _ => rfl) (fun vs H Q E h => ?_) (fun f cdv A outer s H vs Q E hr h => ?_)
  · obtain ⟨c, rfl, _⟩ := h
    rfl
  · obtain ⟨c, rfl, hP, q⟩ := h
    refine ⟨_, (pss_cons (ps_set (i := 1) sc_law_way.nd rfl (Or.inl rfl) (pe_lst (pa_cons pe_str (pa_cons pe_str (pa_cons pe_str (pa_cons pe_str (pa_cons pe_str (pa_cons pe_str (pa_cons pe_str (pa_cons pe_str (pa_cons pe_str (pa_cons pe_str (pa_cons pe_str (pa_cons pe_str (pa_cons pe_str (pa_cons pe_str (pa_cons pe_str (pa_cons pe_str pa_nil))))))))))))))))))
      (pss_one (ps_ret (pe_ix ix_any (pe_op op_cat (pv 1) (pe_lst (pa_cons pe_str (pa_cons pe_str pa_nil)))) (pe_own g_law_draw (hr.mono (by decide)) (by rfl) pass0 (pa_cons (pv 0) (pa_cons pe_int pa_nil))) (fun _ _ => rfl))))), ?_⟩
    walk_at "rd"
    rename_i x hx
    obtain ⟨o, rfl⟩ := way18 hx
    exact q _ o (by walk_at "sb") (by walk_at "pl")
theorem g_law_odd (T : Txt K mg) (g_law_draw : Gives P w K mg base CX0 1 "_law_draw" spDraw) : Gives P w K mg base CX0 2 "_law_odd" spOdd := by
  refine gives_fun T.d_law_odd sc_law_odd (fun _ _ _ _ _ _ us hl => match us, hl with | [_], _ => rfl) (fun vs H Q E h => ?_) (fun f cdv A outer s H vs Q E hr h => ?_)
  · obtain ⟨c, rfl, _⟩ := h
    rfl
  · obtain ⟨c, rfl, hP, q⟩ := h
    refine ⟨_, (pss_cons (ps_set (i := 1) sc_law_odd.nd rfl (Or.inl rfl) (pe_lst (pa_cons pe_non (pa_cons pe_bl (pa_cons pe_bl (pa_cons pe_str (pa_cons pe_str (pa_cons (pe_tup pa_nil) (pa_cons (pe_tup (pa_cons pe_int pa_nil)) (pa_cons (pe_lst pa_nil) (pa_cons (pe_lst (pa_cons pe_int pa_nil)) (pa_cons pe_dnewK (pa_cons (pe_powc 2147483648 ⟨by decide, by decide, by decide⟩ (by decide)) (pa_cons (pe_op op_sub (pe_op op_sub pe_int (pe_powc 2147483648 ⟨by decide, by decide, by decide⟩ (by decide))) pe_int) (pa_cons (pe_powc 1000000000000000000000000000000000000000 ⟨by decide, by decide, by decide⟩ (by decide)) (pa_cons (pe_op op_sub pe_int (pe_powc 1000000000000000000000000000000000000000 ⟨by decide, by decide, by decide⟩ (by decide))) pa_nil))))))))))))))))
      (pss_one (ps_ret (pe_ix ix_any (pe_op op_cat (pv 1) (pe_lst (pa_cons (pe_tup (pa_cons pe_str (pa_cons pe_int pa_nil))) (pa_cons pe_d1 (pa_cons pe_str (pa_cons (pe_tup (pa_cons (pe_lst pa_nil) pa_nil)) pa_nil)))))) (pe_own g_law_draw (hr.mono (by decide)) (by rfl) pass0 (pa_cons (pv 0) (pa_cons pe_int pa_nil))) (fun _ _ => rfl))))), ?_⟩
    refine seq_then (fun σ' H' => ∃ l ys, σ' = [some (.ref c), some (.ref l)] ∧ SameBut c H H' ∧ PoolAt H' c ∧ H' l = some (.lst ys) ∧ ys.length = 14 ∧ npool ys = true ∧ AllD 300 6 H' ys) ?_ (fun U hU => ?_)
    rotate_left
    · walk_at "rd"
      exact hU _ _ ⟨_, _, rfl, by walk_at "sb", by walk_at "pl", upd_same, rfl, rfl, by (walk_at "al"); all_goals exact true⟩
    rintro σ' H1 ⟨l1, ys1, rfl, s1, P1, hl1, hn1, hq1, hA1⟩
    walk_at "rd"
    rename_i H' r sB PB r0 r1 x hx
    have ⟨b, hb⟩ : ∃ b, Dat b 300 6 H' x := AllD_mem (by (walk_at "al"); all_goals exact true) hx
    exact q _ x b (by walk_at "sb") (by walk_at "pl") hb
theorem g_law_no_way (T : Txt K mg) (g_law_draw : Gives P w K mg base CX0 1 "_law_draw" spDraw) : Gives P w K mg base CX0 2 "_law_no_way" spNoWay := by
  refine gives_fun T.d_law_no_way sc_law_no_way (fun _ _ _ _ _ _ us hl => match us, hl with | [_], _ => rfl) (fun vs H Q E h => ?_) (fun f cdv A outer s H vs Q E hr h => ?_)
  · obtain ⟨c, rfl, _⟩ := h
    rfl
  · obtain ⟨c, rfl, hP, q⟩ := h
    refine ⟨_, (pss_cons (ps_set (i := 1) sc_law_no_way.nd rfl (Or.inl rfl) (pe_lst (pa_cons pe_non (pa_cons pe_bl (pa_cons pe_int (pa_cons pe_str (pa_cons pe_str (pa_cons pe_str (pa_cons pe_str (pa_cons pe_str (pa_cons pe_str (pa_cons pe_str (pa_cons pe_str (pa_cons pe_str (pa_cons (pe_tup pa_nil) (pa_cons (pe_tup (pa_cons pe_str pa_nil)) (pa_cons (pe_lst pa_nil) pa_nil)))))))))))))))))
      (pss_cons (ps_set (i := 1) sc_law_no_way.nd rfl (Or.inl rfl) (pe_op op_cat (pv 1) (pe_lst (pa_cons (pe_lst (pa_cons pe_str pa_nil)) (pa_cons pe_dnewK pa_nil)))))
      (pss_one (ps_ret (pe_ix ix_any (pe_op op_cat (pv 1) (pe_lst (pa_cons pe_str (pa_cons pe_str (pa_cons pe_str (pa_cons pe_str (pa_cons (pe_tup (pa_cons (pe_lst pa_nil) pa_nil)) (pa_cons pe_str pa_nil)))))))) (pe_own g_law_draw (hr.mono (by decide)) (by rfl) pass0 (pa_cons (pv 0) (pa_cons pe_int pa_nil))) (fun _ _ => rfl)))))), ?_⟩
    refine seq_then (fun σ' H' => ∃ l ys, σ' = [some (.ref c), some (.ref l)] ∧ SameBut c H H' ∧ PoolAt H' c ∧ H' l = some (.lst ys) ∧ ys.length = 15 ∧ npool ys = true ∧ AllN 300 6 H' ys) ?_ (fun U hU => ?_)
    rotate_left
    · walk_at "rd"
      exact hU _ _ ⟨_, _, rfl, by walk_at "sb", by walk_at "pl", upd_same, rfl, rfl, by (walk_at "an"); all_goals exact true⟩
    rintro σ' H1 ⟨l1, ys1, rfl, s1, P1, hl1, hn1, hq1, hA1⟩
    refine seq_then (fun σ' H' => ∃ l ys, σ' = [some (.ref c), some (.ref l)] ∧ SameBut c H H' ∧ PoolAt H' c ∧ H' l = some (.lst ys) ∧ ys.length = 17 ∧ npool ys = true ∧ AllN 300 6 H' ys) ?_ (fun U hU => ?_)
    rotate_left
    · walk_at "rd"
      exact hU _ _ ⟨_, _, rfl, by walk_at "sb", by walk_at "pl", upd_same, by rw [List.length_append, hn1]; rfl, npool_app (by omega), by (walk_at "an"); all_goals exact true⟩
    rintro σ' H2 ⟨l2, ys2, rfl, s2, P2, hl2, hn2, hq2, hA2⟩
    clear hA1 hq1 hn1 hl1 P1 s1 ys1 l1 H1
    walk_at "rd"
    rename_i H' r sB PB r0 r1 x hx
    have ⟨b, hb⟩ : ∃ b, Dno b 300 6 H' x := AllN_mem (by (walk_at "an"); all_goals exact true) hx
    exact q _ x b (by walk_at "sb") (by walk_at "pl") hb
end
end Cb
end

section
set_option maxRecDepth 100000
set_option maxHeartbeats 4000000

namespace Cb
open PySem PySem.Spec PyProof.Rows L2
theorem bad2 {gs : List PyData} (h : gs.length ≤ 2) : (badIx gs gs.length = [] ∧ firstBad 0 gs = none) ∨ (badIx gs gs.length = [0] ∧ firstBad 0 gs = some 0) ∨ (badIx gs gs.length = [1] ∧ firstBad 0 gs = some 1) ∨ (badIx gs gs.length = [0, 1] ∧ firstBad 0 gs = some 0) := by
  match gs, h with
  | [], _ => exact .inl ⟨rfl, rfl⟩
  | [d], _ => by_cases h1 : wordD d = true <;> simp [badIx, firstBad, h1]
  | [d, e], _ => by_cases h1 : wordD d = true <;> by_cases h2 : wordD e = true <;> simp [badIx, firstBad, h1, h2]
  | _ :: _ :: _ :: _, h => exact absurd h (by simp)
local macro_rules | `(tactic| walk_at "pl") => `(tactic| first
  | with_reducible assumption
  | ((with_reducible apply PoolAt.new); (with_reducible assumption); walk_at "pl")
  | ((with_reducible apply PoolAt.same'); (with_reducible assumption); walk_at "pl"))
local macro_rules | `(tactic| walk_at "hp") => `(tactic| first
  | with_reducible assumption
  | with_reducible exact upd_same
  | ((with_reducible apply upd_new); (with_reducible assumption); walk_at "hp")
  | ((with_reducible apply hp_same); (with_reducible assumption); walk_at "hp")
  | ((with_reducible apply but_tup); (with_reducible assumption); walk_at "pl"; walk_at "hp")
  | ((with_reducible apply but_lst); (with_reducible assumption); walk_at "pl"; walk_at "hp"; first | exact rfl | assumption | exact npool_app (by omega)))
local macro_rules | `(tactic| walk_at "da") => `(tactic| first
  | with_reducible assumption
  | with_reducible exact DA.int _
  | with_reducible exact DA.str _
  | with_reducible exact DA.bl _
  | with_reducible exact DA.non
  | ((with_reducible apply DA.tup); (with_reducible exact upd_same); walk_at "dal")
  | ((with_reducible apply DA.lst); (with_reducible exact upd_same); exact rfl; exact rfl; walk_at "dal")
  | with_reducible exact DA.dct upd_same
  | ((with_reducible apply DA.new); (with_reducible assumption); walk_at "da")
  | ((with_reducible apply DA.same'); (with_reducible assumption); walk_at "da")
  | ((with_reducible apply DA.but'); (with_reducible assumption); walk_at "pl"; walk_at "da"))
local macro_rules | `(tactic| walk_at "dal") => `(tactic| first
  | exact DAll.nil
  | (apply DAll.cons; walk_at "da"; walk_at "dal"))
local macro_rules | `(tactic| walk_at "ft") => `(tactic| first
  | with_reducible assumption
  | apply Fit.non'
  | apply Fit.bl'
  | (apply Fit.str (n := 20); decide +kernel)
  | (apply Fit.int'; first | decide | omega)
  | (apply Fit.tup'; walk_at "fta")
  | (apply Fit.lst'; walk_at "fta"))
local macro_rules | `(tactic| walk_at "fta") => `(tactic| first
  | apply FitAll.nil'
  | (apply FitAll.cons'; walk_at "ft"; walk_at "fta"))
local macro_rules | `(tactic| walk_at "sm") => `(tactic| first
  | with_reducible assumption
  | with_reducible exact L2.Same.refl _
  | ((with_reducible apply sm_new); (with_reducible assumption); walk_at "sm")
  | ((with_reducible apply sm_same); (with_reducible assumption); walk_at "sm"))
local macro_rules | `(tactic| walk_at "sb") => `(tactic| first
  | with_reducible assumption
  | with_reducible exact SameBut.refl _ _
  | ((with_reducible apply sb_new); (with_reducible assumption); walk_at "sb")
  | ((with_reducible apply sb_but); (with_reducible assumption); walk_at "sb")
  | ((with_reducible apply sb_same); (with_reducible assumption); walk_at "sb"))
local macro_rules | `(tactic| walk_at "sq") => `(tactic| first
  | (refine Or.inl (Or.inl ?_); walk_at "hp")
  | (refine Or.inr (Or.inl (Or.inl ?_)); walk_at "hp")
  | (refine Or.inl (Or.inl (Or.inl ?_)); walk_at "hp")
  | exact (by assumption : ∀ H', SqT _ H' _ _) _
  | exact Or.inr ((by assumption : ∀ H', SqT _ H' _ _) _))
local macro_rules | `(tactic| walk_at "dt") => `(tactic| first
  | with_reducible assumption
  | apply (by assumption : ∀ b, Dat b _ _ _ _)
  | (with_reducible apply Dat.non)
  | (with_reducible apply Dat.bl)
  | ((with_reducible apply Dat.str); first | decide +kernel | exact name_short _)
  | ((with_reducible apply Dat.int); first | decide | omega)
  | ((with_reducible apply Dat.intW); decide)
  | ((with_reducible apply Dat.dc1); with_reducible exact upd_same)
  | ((with_reducible apply Dat.up'); (first | (with_reducible assumption) | apply (by assumption : ∀ b, Dat b _ _ _ _)); omega)
  | ((with_reducible apply Dat.tup); (with_reducible exact upd_same); walk_at "dtl")
  | ((with_reducible apply Dat.lst); (with_reducible exact upd_same); (first | exact rfl | assumption); (first | exact rfl | assumption); walk_at "dtl")
  | ((with_reducible apply Dat.dct); with_reducible exact upd_same)
  | ((with_reducible apply Dat.new); (with_reducible assumption); walk_at "dt")
  | ((with_reducible apply Dat.same'); (with_reducible assumption); walk_at "dt")
  | ((with_reducible apply Dat.but'); (with_reducible assumption); walk_at "pl"; walk_at "dt")
  | ((with_reducible apply Dat.ofE); (with_reducible assumption); omega)
  | ((with_reducible apply Dat.leaf); (with_reducible assumption); assumption; assumption; decide; omega))
local macro_rules | `(tactic| walk_at "dtl") => `(tactic| first
  | apply DatL.nil
  | ((with_reducible apply DatL.cons); walk_at "dt"; walk_at "dtl")
  | with_reducible assumption
  | apply (by assumption : ∀ b, DatL b _ _ _ _)
  | ((with_reducible apply DatL.up'); (first | (with_reducible assumption) | apply (by assumption : ∀ b, DatL b _ _ _ _)); omega)
  | ((with_reducible apply DatL.new); (with_reducible assumption); walk_at "dtl")
  | ((with_reducible apply DatL.same'); (with_reducible assumption); walk_at "dtl")
  | ((with_reducible apply DatL.but'); (with_reducible assumption); walk_at "pl"; walk_at "dtl"))
local macro_rules | `(tactic| walk_at "al") => `(tactic| first
  | exact AllD.nil
  | ((with_reducible apply AllD.cons); walk_at "dt"; omega; walk_at "al")
  | with_reducible assumption
  | ((with_reducible apply AllD.app); walk_at "al"; walk_at "al")
  | ((with_reducible apply AllD.new); (with_reducible assumption); walk_at "al")
  | ((with_reducible apply AllD.same'); (with_reducible assumption); walk_at "al")
  | ((with_reducible apply AllD.but'); (with_reducible assumption); walk_at "pl"; walk_at "al"))
local macro_rules | `(tactic| walk_at "pt") => `(tactic| first
  | with_reducible assumption
  | ((with_reducible apply PatAt.new); (with_reducible assumption); walk_at "pt")
  | ((with_reducible apply PatAt.same'); (with_reducible assumption); walk_at "pt")
  | ((with_reducible apply PatAt.but'); (with_reducible assumption); walk_at "pl"; walk_at "pt"))
local macro_rules | `(tactic| walk_at "db") => `(tactic| first
  | with_reducible assumption
  | ((with_reducible apply DatB.new); (with_reducible assumption); walk_at "db")
  | ((with_reducible apply DatB.same'); (with_reducible assumption); walk_at "db")
  | ((with_reducible apply DatB.but'); (with_reducible assumption); walk_at "pl"; walk_at "db"))
local macro_rules | `(tactic| walk_at "dn") => `(tactic| first
  | with_reducible assumption
  | (with_reducible apply Dno.non)
  | (with_reducible apply Dno.bl)
  | ((with_reducible apply Dno.str); decide +kernel; exact rfl)
  | ((with_reducible apply Dno.int); decide)
  | ((with_reducible apply Dno.tup); (with_reducible exact upd_same); walk_at "dtl")
  | ((with_reducible apply Dno.lst); (with_reducible exact upd_same); exact rfl; exact rfl; walk_at "dtl")
  | ((with_reducible apply Dno.dct); with_reducible exact upd_same)
  | ((with_reducible apply Dno.new); (with_reducible assumption); walk_at "dn")
  | ((with_reducible apply Dno.same'); (with_reducible assumption); walk_at "dn")
  | ((with_reducible apply Dno.but'); (with_reducible assumption); walk_at "pl"; walk_at "dn"))
local macro_rules | `(tactic| walk_at "an") => `(tactic| first
  | exact AllN.nil
  | ((with_reducible apply AllN.cons); walk_at "dn"; omega; walk_at "an")
  | with_reducible assumption
  | ((with_reducible apply AllN.app); walk_at "an"; walk_at "an")
  | ((with_reducible apply AllN.new); (with_reducible assumption); walk_at "an")
  | ((with_reducible apply AllN.same'); (with_reducible assumption); walk_at "an")
  | ((with_reducible apply AllN.but'); (with_reducible assumption); walk_at "pl"; walk_at "an"))
local macro_rules | `(tactic| walk_at "st") => `(tactic| first
  | (with_reducible show upd _ _ _ _ = some _); (walk_at "hp")
  | (with_reducible show L2.Same _ _); (walk_at "sm")
  | (with_reducible refine And.intro ?_ ?_)
  | exact rfl
  | with_reducible assumption
  | (with_reducible show DA _ _ _); (walk_at "da")
  | (with_reducible show PoolAt _ _); (walk_at "pl")
  | (with_reducible show Dat _ _ _ _ _); (walk_at "dt")
  | (with_reducible show Fit _ _ _ _); (walk_at "ft")
  | (with_reducible show PatAt _ _ _); (walk_at "pt")
  | (with_reducible show SameBut _ _ _); (walk_at "sb")
  | (with_reducible show _ ≤ sizeLine); (first | exact len_line _ rfl | exact len_line2 _ _ rfl rfl | decide | omega | exact Nat.le_trans (m := 200000) (by omega) (by decide) | exact Nat.le_trans (m := 200000) (by simp only [List.length_cons, List.length_nil]; omega) (by decide))
  | (with_reducible first | show (_ : Int) ≤ _ | show (_ : Int) < _ | show (_ : Nat) ≤ _ | show (_ : Nat) < _); (first | omega | (simp only [List.length_append]; omega) | (simp only [List.length_cons, List.length_nil]; omega) | (simp only [List.length_append, List.length_cons, List.length_nil]; omega) | exact Int.lt_of_lt_of_le (by assumption) (by decide))
  | exact cut1_not _ _
  | exact List.cons_ne_nil _ _
  | exact fun h => absurd h (List.cons_ne_nil _ _)
  | exact fun h => (h rfl).elim
  | (with_reducible show DatB _ _ _ _); (walk_at "db")
  | (with_reducible show AllD _ _ _ _); (walk_at "al")
  | exact Or.inl ⟨rfl, _, Or.inl (Or.inl (by walk_at "hp"))⟩
  | exact fun h => absurd h.1 (Nat.ne_of_beq_eq_false rfl)
  | exact fun h => absurd h.2 (Nat.ne_of_beq_eq_false rfl)
  | exact at0 _ _
  | exact at1 _ _ _
  | (refine And.intro ?_ ?_)
  | (fail_if_success first | show (∃ _ : Nat → Nat → L2.St → Hp → Prop, _) | show (∃ _ : Nat → Nat → Hp → Prop, _) | show (∃ _ : Nat → L2.St → Hp → Prop, _) | show (∃ (_ : PyData) (_ : PyData), _) | show (∃ (_ : Addr) (_ : List V) (_ : V) (_ : Nat) (_ : V), _)); (apply Exists.intro)
  | (refine iteT' rfl ?_)
  | (refine iteF' rfl ?_)
  | walk_at "sq"
  | (with_reducible show _ = some _); (walk_at "hp")
  | intro _
  | assumption)
local macro_rules | `(tactic| walk_at "rd") => `(tactic| repeat walk_at "st")
section
variable {P : Program} {w : World} {K : PySem.W.Frag} {mg : Str → Option Value} {base : Heap} {Ad : Nat → Addr}
theorem g_law_is_word (T : Txt K mg)  : Gives P w K mg base CX0 1 "_law_is_word" spIsWordD := by
  refine gives_fun T.d_law_is_word sc_law_is_word (fun _ _ _ _ _ _ us hl => match us, hl with | [_], _ => rfl) (fun vs H Q E h => ?_) (fun f cdv A outer s H vs Q E hr h => ?_)
  · obtain ⟨v, d, rfl, _⟩ := h
    rfl
  · obtain ⟨v, d, rfl, hd, q⟩ := h
    refine ⟨_, (pss_one (ps_ret (pe_and (pe_callB (call_isiD kb_int) (by rfl) T.n_isinstance (by decide +kernel) (pa_cons (pv 0) (pa_cons (pe_bltn (v := .ty "int") (by rfl) T.n_int (by decide +kernel) rfl) pa_nil))) (pe_and (pe_not (pe_callB (call_isiD kb_bool) (by rfl) T.n_isinstance (by decide +kernel) (pa_cons (pv 0) (pa_cons (pe_bltn (v := .ty "bool") (by rfl) T.n_bool (by decide +kernel) rfl) pa_nil)))) (pe_one (pe_chain op_le op_lt (pe_op op_sub pe_int (pe_powc 2147483648 ⟨by decide, by decide, by decide⟩ (by decide))) (pv 0) (pe_powc 2147483648 ⟨by decide, by decide, by decide⟩ (by decide)))))))), ?_⟩
    cases d with
    | int i =>
      cases hd
      walk_at "rd"
      refine ite2 (fun c => ?_) (fun c => ?_)
      · have c1 : (0 : Int) - 2147483648 ≤ i := of_decide_eq_true c
        walk_at "rd"
        refine bl_cast (decide_eq_decide.mpr ?_) q
        unfold Wd
        omega
      · have c1 : ¬ (0 : Int) - 2147483648 ≤ i := fun z => c (decide_eq_true z)
        refine bl_cast (Eq.symm (decide_eq_false ?_)) q
        unfold Wd
        omega
    | _ => walk_at "rd"
theorem g_law_due (T : Txt K mg) (g_law_is_word : Gives P w K mg base CX0 1 "_law_is_word" spIsWordD) : GivesG P w K mg base CX0 3 "_law_due" spDue := by
  refine givesG_fun T.d_law_due sc_law_due (fun _ _ _ _ _ _ us hl => match us, hl with | [_, _], _ => rfl) (fun vs H Q E h => ?_) (fun f cdv A outer s H vs Q E hgd hr h => ?_)
  · obtain ⟨o, l, ws, gs, rfl, _⟩ := h
    rfl
  · obtain ⟨o, l, ws, gs, rfl, hl, h4, hds, q⟩ := h
    refine ⟨_, (pss_cons (ps_if (pt_cmpR op_ne (pe_callB call_len_seq (by rfl) T.n_len (by decide +kernel) (pa_cons (pv 1) pa_nil)) (pe_ix ix_list (pe_lst (pa_cons pe_int (pa_cons pe_int pa_nil))) (pe_callTy call_int1 (by rfl) T.n_int (by decide +kernel) (pa_cons (pe_inC (i := 0) rfl (by first | exact Or.inl rfl | exact Or.inr (Or.inl rfl) | exact Or.inr (Or.inr rfl)) (pc_cons (pc_cons pc_nil))) pa_nil)) (fun _ _ => rfl)) (nomark _)) (pss_one (ps_ret (pe_lst (pa_cons pe_int (pa_cons pe_str pa_nil))))) pss_nil)
      (pss_cons (ps_setLc (i := 2) (own := [("_law_at", 3)]) rfl sc_law_due.nd rfl rfl (sw_true rfl rfl rfl (by decide +kernel)) (pi_range1 (by rfl) T.n_range (pa_cons (pe_callB call_len_seq (by rfl) T.n_len (by decide +kernel) (pa_cons (pv 1) pa_nil)) pa_nil)) (blkOk_by (N := ["_law_way_here", "_law_given", "_law_bad", "_law_at"]) (sc := defScope s_law_due) (by decide +kernel)) (fun _ _ _ _ _ => (pg_name (i := 3) sc_law_due.nd rfl (Or.inl rfl))) (fun _ _ _ _ _ => (pts_one (pt_not (pt_val (pe_own g_law_is_word (hr.mono (by decide)) (by rfl) pass0 (pa_cons (pe_ix (ixK (K := K) rfl) (pv 1) (pv 3) (fun _ _ => rfl)) pa_nil)))))) (fun _ _ _ _ _ => (pv 3)))
      (pss_one (ps_ret (pe_ifExp (pt_cmpR (op_eqD (units64 hr)) (pv 2) (pe_lst pa_nil) (nomark _)) (pe_lst (pa_cons pe_str (pa_cons pe_str pa_nil))) (pe_lst (pa_cons pe_int (pa_cons (pe_callB (call_reprD (m := 100) hgd (unitsN hr)) (by rfl) T.n_repr (by decide +kernel) (pa_cons (pe_ix ix_list (pv 2) pe_int (fun _ _ => rfl)) pa_nil)) pa_nil)))))))), ?_⟩
    have hlen : ws.length = gs.length := hds.length
    refine seq_then (fun σ' H' => σ' = [some (.str o.name), some (.ref l), none, none] ∧ L2.Same H H' ∧ gs.length = (if sgN (.str o.name) = true then 1 else 2)) ?_ (fun U hU => ?_)
    rotate_left
    · walk_at "rd"
      refine .inr ⟨_, rfl, ?_⟩
      cases hsg : inV (.str o.name) sgl2 with
      | true =>
        refine ⟨_, _, 1, .int 1, rfl, rfl, .inl (.inl (by walk_at "hp")), rfl, ?_⟩
        have hs2 : sgN (.str o.name) = true := hsg
        walk_at "rd"
        refine ite2 (fun c2 => ?_) (fun c2 => ?_)
        · have c3 := of_decide_eq_true ((ne_int _ _).symm.trans c2)
          rw [out_len (opN_name o) (by rw [hs2, if_pos rfl]; omega)] at q
          walk_at "rd"
          exact q _ _ (by walk_at "sm") (by refine free_of ?_ (by assumption); walk_at "sm") upd_same
        · have c3 : ¬ ((ws.length : Int) ≠ 1) := fun z => c2 ((ne_int _ _).trans (decide_eq_true z))
          walk_at "rd"
          exact hU _ _ ⟨rfl, by walk_at "sm", by rw [hs2, if_pos rfl]; omega⟩
      | false =>
        refine ⟨_, _, 0, .int 2, rfl, rfl, .inl (.inl (by walk_at "hp")), rfl, ?_⟩
        have hs2 : ¬ sgN (.str o.name) = true := fun z => by rw [show inV (.str o.name) sgl2 = true from z] at hsg; cases hsg
        walk_at "rd"
        refine ite2 (fun c2 => ?_) (fun c2 => ?_)
        · have c3 := of_decide_eq_true ((ne_int _ _).symm.trans c2)
          rw [out_len (opN_name o) (by rw [if_neg hs2]; omega)] at q
          walk_at "rd"
          exact q _ _ (by walk_at "sm") (by refine free_of ?_ (by assumption); walk_at "sm") upd_same
        · have c3 : ¬ ((ws.length : Int) ≠ 2) := fun z => c2 ((ne_int _ _).trans (decide_eq_true z))
          walk_at "rd"
          exact hU _ _ ⟨rfl, by walk_at "sm", by rw [if_neg hs2]; omega⟩
    rintro σ' H1 ⟨rfl, s1, hgl⟩
    have hl1 : H1 l = some (.lst ws) := s1 _ _ hl
    have hds1 := hds.same s1
    walk_at "rd"
    rename_i D hD
    have e0 : ((ws.length : Int)).toNat = gs.length := by omega
    rw [e0]
    refine lc_range (fun i H' => L2.Same H1 H' ∧ H' D = some (.lst ((badIx gs i).map V.int))) ⟨same_upd hD, upd_same⟩ (fun i H' hi hP => ?_) (fun H' hP => ?_)
    · obtain ⟨s2, hD2⟩ := hP
      obtain ⟨x, hx⟩ : ∃ x, ws[i]? = some x := ⟨ws[i]'(by omega), List.getElem?_eq_getElem _⟩
      obtain ⟨d, hdi, hdx⟩ := dall_at hds1 hx
      have hdx2 : DA H' x d := hdx.same s2
      have e1 : badIx gs (i + 1) = if wordD d = true then badIx gs i else badIx gs i ++ [(i : Int)] := by
        show (if (gs[i]?).any wordD = true then badIx gs i else badIx gs i ++ [(i : Int)]) = _
        rw [hdi]
        rfl
      refine ⟨rfl, _, rfl, _, rfl, l, ws, (0 : Int) + i, x, rfl, rfl, .inl (.inl (s2 _ _ hl1)), by rw [Int.zero_add]; exact atI_nat hx, ?_⟩
      walk_at "rd"
      cases hw : wordD d with
      | true =>
        refine iteF' rfl ?_
        exact ⟨s2, by rw [e1, if_pos hw]; exact hD2⟩
      | false =>
        refine iteT' rfl ?_
        refine ⟨_, rfl, _, hD2, Nat.lt_of_le_of_lt (by rw [List.length_map]; exact badIx_len i) (Nat.lt_of_lt_of_le (show i < 1000 by omega) (by decide)), fun b o' e => ?_, ?_⟩
        · rw [upd_ne (ne_of_none e hD)]
          exact s2 _ _ e
        · rw [upd_same, e1, if_neg (by rw [hw]; decide), List.map_append, Int.zero_add]
          rfl
    · obtain ⟨s2, hD2⟩ := hP
      have g2 : gs.length ≤ 2 := by
        rw [hgl]
        split <;> decide
      rcases bad2 g2 with ⟨e1, e5⟩ | ⟨e1, e5⟩ | ⟨e1, e5⟩ | ⟨e1, e5⟩
      · rw [e1] at hD2
        have hD2 : H' D = some (.lst []) := hD2
        rw [out_ret (opN_name o) hgl e5] at q
        refine ⟨_, rfl, by show 0 ≤ sizeLine; decide, fun p np => ⟨_, _, .lst (.inl (.inl (upd_new np hD2))) .nil, .lst (.inl (.inl upd_same)) .nil, by decide, by decide, _, rfl, ?_⟩⟩
        walk_at "rd"
        exact q _ _ (by walk_at "sm") (by refine free_of ?_ (by assumption); walk_at "sm") upd_same
      · rw [e1] at hD2
        have hD2 : H' D = some (.lst [.int 0]) := hD2
        rw [out_bad (opN_name o) hgl e5] at q
        refine ⟨_, rfl, by show 0 ≤ sizeLine; decide, fun p np => ⟨_, _, .lst (.inl (.inl (upd_new np hD2))) (.cons (.int _) .nil), .lst (.inl (.inl upd_same)) .nil, by decide, rfl, ?_⟩⟩
        walk_at "rd"
        exact q _ _ (by walk_at "sm") (by refine free_of ?_ (by assumption); walk_at "sm") upd_same
        all_goals exact true
      · rw [e1] at hD2
        have hD2 : H' D = some (.lst [.int 1]) := hD2
        rw [out_bad (opN_name o) hgl e5] at q
        refine ⟨_, rfl, by show 0 ≤ sizeLine; decide, fun p np => ⟨_, _, .lst (.inl (.inl (upd_new np hD2))) (.cons (.int _) .nil), .lst (.inl (.inl upd_same)) .nil, by decide, rfl, ?_⟩⟩
        walk_at "rd"
        exact q _ _ (by walk_at "sm") (by refine free_of ?_ (by assumption); walk_at "sm") upd_same
        all_goals exact true
      · rw [e1] at hD2
        have hD2 : H' D = some (.lst [.int 0, .int 1]) := hD2
        rw [out_bad (opN_name o) hgl e5] at q
        refine ⟨_, rfl, by show 0 ≤ sizeLine; decide, fun p np => ⟨_, _, .lst (.inl (.inl (upd_new np hD2))) (.cons (.int _) (.cons (.int _) .nil)), .lst (.inl (.inl upd_same)) .nil, by decide, rfl, ?_⟩⟩
        walk_at "rd"
        exact q _ _ (by walk_at "sm") (by refine free_of ?_ (by assumption); walk_at "sm") upd_same
        all_goals exact true

end
end Cb
end

section
set_option maxRecDepth 100000
set_option maxHeartbeats 4000000

namespace Cb
open PySem PySem.Spec PyProof.Rows L2
theorem lt3 {k : Nat} (h : k < 3) : k = 0 ∨ k = 1 ∨ k = 2 := by omega
/-- isinstance(e, the j-th class), e the error of the k-th kind -/
def rIsJ (Ad : Nat → Addr) (a dd : Addr) (k j : Nat) : List V → Hp → VK → Prop := fun xs H Q => ∃ fs, xs = [.ref a, .ref (Ad j)] ∧ H dd = some (.xd fs) ∧ Q (.bl (decide (j = 0 ∨ j = k + 1))) H
theorem call_isJ {X : Cx} {Ad : Nat → Addr} {k dd : Nat} {p : Addr × Obj} (R : Ers X.K X.mg Ad) (hk : k < 3) (j : Nat) (hj : j < 25) (hp : p ∈ X.pn) (hz : Zc (.ref (Ad (k + 1))) (some dd) p.2) (hf : ∃ vs, p.2.data = .fields vs) : CallR X (.builtin "isinstance") (rIsJ Ad p.1 dd k j) :=
  fun pins s σ H xs us Q I r h => by
    obtain ⟨fs, e, hd, q⟩ := h
    exact call_isP (R.isc k hk) hp hz hf pins s σ H xs us Q I r ⟨fs, _, _, _, e, hd, fun u r => r, R.kit k hk j hj, q⟩
def rIsB (a dd : Addr) (x : String) (b : Bool) : List V → Hp → VK → Prop := fun xs H Q => ∃ fs, xs = [.ref a, .ty x] ∧ H dd = some (.xd fs) ∧ Q (.bl b) H
theorem call_isB {X : Cx} {Ad : Nat → Addr} {k dd : Nat} {p : Addr × Obj} {x : String} {b : Bool} (R : Ers X.K X.mg Ad) (hk : k < 3) (hkit : PySem.W.kitOne X.K (.ref (Ad (k + 1))) (.type x) = some b) (hp : p ∈ X.pn) (hz : Zc (.ref (Ad (k + 1))) (some dd) p.2) (hf : ∃ vs, p.2.data = .fields vs) : CallR X (.builtin "isinstance") (rIsB p.1 dd x b) :=
  fun pins s σ H xs us Q I r h => by
    obtain ⟨fs, e, hd, q⟩ := h
    exact call_isP (R.isc k hk) hp hz hf pins s σ H xs us Q I r ⟨fs, _, _, _, e, hd, fun u r => r, hkit, q⟩
def spKind (Ad : Nat → Addr) : Addr × Obj → Sp := fun p vs H Q _ => ∃ (k : Nat) (dd : Addr) (fs : List (Str × V)), vs = [.ref p.1] ∧ k < 3 ∧ Zc (.ref (Ad (k + 1))) (some dd) p.2 ∧ (∃ vs, p.2.data = .fields vs) ∧ H dd = some (.xd fs) ∧ ∀ H', L2.Same H H' → Q (.int (k : Int)) H'
def found22 (k : Nat) : List Bool := (List.range 22).map fun j => decide (j = k)
theorem unitsH {k : Nat} {A : Around} (r : L2H.RoomH k A) : A.units + 64 < cLine := by
  have := r.un
  omega
theorem dpB {K : PySem.W.Frag} {H : Hp} : ∀ bs : List Bool, DpAll K H (bs.map V.bl) (bs.map PyData.bool)
  | [] => .nil
  | b :: bs => .cons (.bl b) (dpB bs)
local macro_rules | `(tactic| walk_at "pl") => `(tactic| first
  | with_reducible assumption
  | ((with_reducible apply PoolAt.new); (with_reducible assumption); walk_at "pl")
  | ((with_reducible apply PoolAt.same'); (with_reducible assumption); walk_at "pl"))
local macro_rules | `(tactic| walk_at "hp") => `(tactic| first
  | with_reducible assumption
  | with_reducible exact upd_same
  | ((with_reducible apply upd_new); (with_reducible assumption); walk_at "hp")
  | ((with_reducible apply hp_same); (with_reducible assumption); walk_at "hp")
  | ((with_reducible apply but_tup); (with_reducible assumption); walk_at "pl"; walk_at "hp")
  | ((with_reducible apply but_lst); (with_reducible assumption); walk_at "pl"; walk_at "hp"; first | exact rfl | assumption | exact npool_app (by omega)))
local macro_rules | `(tactic| walk_at "da") => `(tactic| first
  | with_reducible assumption
  | with_reducible exact DA.int _
  | with_reducible exact DA.str _
  | with_reducible exact DA.bl _
  | with_reducible exact DA.non
  | ((with_reducible apply DA.tup); (with_reducible exact upd_same); walk_at "dal")
  | ((with_reducible apply DA.lst); (with_reducible exact upd_same); exact rfl; exact rfl; walk_at "dal")
  | with_reducible exact DA.dct upd_same
  | ((with_reducible apply DA.new); (with_reducible assumption); walk_at "da")
  | ((with_reducible apply DA.same'); (with_reducible assumption); walk_at "da")
  | ((with_reducible apply DA.but'); (with_reducible assumption); walk_at "pl"; walk_at "da"))
local macro_rules | `(tactic| walk_at "dal") => `(tactic| first
  | exact DAll.nil
  | (apply DAll.cons; walk_at "da"; walk_at "dal"))
local macro_rules | `(tactic| walk_at "ft") => `(tactic| first
  | with_reducible assumption
  | apply Fit.non'
  | apply Fit.bl'
  | (apply Fit.str (n := 20); decide +kernel)
  | (apply Fit.int'; first | decide | omega)
  | (apply Fit.tup'; walk_at "fta")
  | (apply Fit.lst'; walk_at "fta"))
local macro_rules | `(tactic| walk_at "fta") => `(tactic| first
  | apply FitAll.nil'
  | (apply FitAll.cons'; walk_at "ft"; walk_at "fta"))
local macro_rules | `(tactic| walk_at "sm") => `(tactic| first
  | with_reducible assumption
  | with_reducible exact L2.Same.refl _
  | ((with_reducible apply sm_new); (with_reducible assumption); walk_at "sm")
  | ((with_reducible apply sm_same); (with_reducible assumption); walk_at "sm"))
local macro_rules | `(tactic| walk_at "sb") => `(tactic| first
  | with_reducible assumption
  | with_reducible exact SameBut.refl _ _
  | ((with_reducible apply sb_new); (with_reducible assumption); walk_at "sb")
  | ((with_reducible apply sb_but); (with_reducible assumption); walk_at "sb")
  | ((with_reducible apply sb_same); (with_reducible assumption); walk_at "sb"))
local macro_rules | `(tactic| walk_at "sq") => `(tactic| first
  | (refine Or.inl (Or.inl ?_); walk_at "hp")
  | (refine Or.inr (Or.inl (Or.inl ?_)); walk_at "hp")
  | (refine Or.inl (Or.inl (Or.inl ?_)); walk_at "hp")
  | exact (by assumption : ∀ H', SqT _ H' _ _) _
  | exact Or.inr ((by assumption : ∀ H', SqT _ H' _ _) _))
local macro_rules | `(tactic| walk_at "dt") => `(tactic| first
  | with_reducible assumption
  | apply (by assumption : ∀ b, Dat b _ _ _ _)
  | (with_reducible apply Dat.non)
  | (with_reducible apply Dat.bl)
  | ((with_reducible apply Dat.str); first | decide +kernel | exact name_short _)
  | ((with_reducible apply Dat.int); first | decide | omega)
  | ((with_reducible apply Dat.intW); decide)
  | ((with_reducible apply Dat.dc1); with_reducible exact upd_same)
  | ((with_reducible apply Dat.up'); (first | (with_reducible assumption) | apply (by assumption : ∀ b, Dat b _ _ _ _)); omega)
  | ((with_reducible apply Dat.tup); (with_reducible exact upd_same); walk_at "dtl")
  | ((with_reducible apply Dat.lst); (with_reducible exact upd_same); (first | exact rfl | assumption); (first | exact rfl | assumption); walk_at "dtl")
  | ((with_reducible apply Dat.dct); with_reducible exact upd_same)
  | ((with_reducible apply Dat.new); (with_reducible assumption); walk_at "dt")
  | ((with_reducible apply Dat.same'); (with_reducible assumption); walk_at "dt")
  | ((with_reducible apply Dat.but'); (with_reducible assumption); walk_at "pl"; walk_at "dt")
  | ((with_reducible apply Dat.ofE); (with_reducible assumption); omega)
  | ((with_reducible apply Dat.leaf); (with_reducible assumption); assumption; assumption; decide; omega))
local macro_rules | `(tactic| walk_at "dtl") => `(tactic| first
  | apply DatL.nil
  | ((with_reducible apply DatL.cons); walk_at "dt"; walk_at "dtl")
  | with_reducible assumption
  | apply (by assumption : ∀ b, DatL b _ _ _ _)
  | ((with_reducible apply DatL.up'); (first | (with_reducible assumption) | apply (by assumption : ∀ b, DatL b _ _ _ _)); omega)
  | ((with_reducible apply DatL.new); (with_reducible assumption); walk_at "dtl")
  | ((with_reducible apply DatL.same'); (with_reducible assumption); walk_at "dtl")
  | ((with_reducible apply DatL.but'); (with_reducible assumption); walk_at "pl"; walk_at "dtl"))
local macro_rules | `(tactic| walk_at "al") => `(tactic| first
  | exact AllD.nil
  | ((with_reducible apply AllD.cons); walk_at "dt"; omega; walk_at "al")
  | with_reducible assumption
  | ((with_reducible apply AllD.app); walk_at "al"; walk_at "al")
  | ((with_reducible apply AllD.new); (with_reducible assumption); walk_at "al")
  | ((with_reducible apply AllD.same'); (with_reducible assumption); walk_at "al")
  | ((with_reducible apply AllD.but'); (with_reducible assumption); walk_at "pl"; walk_at "al"))
local macro_rules | `(tactic| walk_at "pt") => `(tactic| first
  | with_reducible assumption
  | ((with_reducible apply PatAt.new); (with_reducible assumption); walk_at "pt")
  | ((with_reducible apply PatAt.same'); (with_reducible assumption); walk_at "pt")
  | ((with_reducible apply PatAt.but'); (with_reducible assumption); walk_at "pl"; walk_at "pt"))
local macro_rules | `(tactic| walk_at "db") => `(tactic| first
  | with_reducible assumption
  | ((with_reducible apply DatB.new); (with_reducible assumption); walk_at "db")
  | ((with_reducible apply DatB.same'); (with_reducible assumption); walk_at "db")
  | ((with_reducible apply DatB.but'); (with_reducible assumption); walk_at "pl"; walk_at "db"))
local macro_rules | `(tactic| walk_at "dn") => `(tactic| first
  | with_reducible assumption
  | (with_reducible apply Dno.non)
  | (with_reducible apply Dno.bl)
  | ((with_reducible apply Dno.str); decide +kernel; exact rfl)
  | ((with_reducible apply Dno.int); decide)
  | ((with_reducible apply Dno.tup); (with_reducible exact upd_same); walk_at "dtl")
  | ((with_reducible apply Dno.lst); (with_reducible exact upd_same); exact rfl; exact rfl; walk_at "dtl")
  | ((with_reducible apply Dno.dct); with_reducible exact upd_same)
  | ((with_reducible apply Dno.new); (with_reducible assumption); walk_at "dn")
  | ((with_reducible apply Dno.same'); (with_reducible assumption); walk_at "dn")
  | ((with_reducible apply Dno.but'); (with_reducible assumption); walk_at "pl"; walk_at "dn"))
local macro_rules | `(tactic| walk_at "an") => `(tactic| first
  | exact AllN.nil
  | ((with_reducible apply AllN.cons); walk_at "dn"; omega; walk_at "an")
  | with_reducible assumption
  | ((with_reducible apply AllN.app); walk_at "an"; walk_at "an")
  | ((with_reducible apply AllN.new); (with_reducible assumption); walk_at "an")
  | ((with_reducible apply AllN.same'); (with_reducible assumption); walk_at "an")
  | ((with_reducible apply AllN.but'); (with_reducible assumption); walk_at "pl"; walk_at "an"))
local macro_rules | `(tactic| walk_at "st") => `(tactic| first
  | (with_reducible show upd _ _ _ _ = some _); (walk_at "hp")
  | (with_reducible show L2.Same _ _); (walk_at "sm")
  | (with_reducible refine And.intro ?_ ?_)
  | exact rfl
  | with_reducible assumption
  | (with_reducible show DA _ _ _); (walk_at "da")
  | (with_reducible show PoolAt _ _); (walk_at "pl")
  | (with_reducible show Dat _ _ _ _ _); (walk_at "dt")
  | (with_reducible show Fit _ _ _ _); (walk_at "ft")
  | (with_reducible show PatAt _ _ _); (walk_at "pt")
  | (with_reducible show SameBut _ _ _); (walk_at "sb")
  | (with_reducible show _ ≤ sizeLine); (first | exact len_line _ rfl | exact len_line2 _ _ rfl rfl | decide | omega | exact Nat.le_trans (m := 200000) (by omega) (by decide) | exact Nat.le_trans (m := 200000) (by simp only [List.length_cons, List.length_nil]; omega) (by decide))
  | (with_reducible first | show (_ : Int) ≤ _ | show (_ : Int) < _ | show (_ : Nat) ≤ _ | show (_ : Nat) < _); (first | omega | (simp only [List.length_append]; omega) | (simp only [List.length_cons, List.length_nil]; omega) | (simp only [List.length_append, List.length_cons, List.length_nil]; omega) | exact Int.lt_of_lt_of_le (by assumption) (by decide))
  | exact cut1_not _ _
  | exact List.cons_ne_nil _ _
  | exact fun h => absurd h (List.cons_ne_nil _ _)
  | exact fun h => (h rfl).elim
  | (with_reducible show DatB _ _ _ _); (walk_at "db")
  | (with_reducible show AllD _ _ _ _); (walk_at "al")
  | exact Or.inl ⟨rfl, _, Or.inl (Or.inl (by walk_at "hp"))⟩
  | exact fun h => absurd h.1 (Nat.ne_of_beq_eq_false rfl)
  | exact fun h => absurd h.2 (Nat.ne_of_beq_eq_false rfl)
  | exact at0 _ _
  | exact at1 _ _ _
  | (refine And.intro ?_ ?_)
  | (fail_if_success first | show (∃ _ : Nat → Nat → L2.St → Hp → Prop, _) | show (∃ _ : Nat → Nat → Hp → Prop, _) | show (∃ _ : Nat → L2.St → Hp → Prop, _) | show (∃ (_ : PyData) (_ : PyData), _) | show (∃ (_ : Addr) (_ : List V) (_ : V) (_ : Nat) (_ : V), _)); (apply Exists.intro)
  | (refine iteT' rfl ?_)
  | (refine iteF' rfl ?_)
  | walk_at "sq"
  | (with_reducible show _ = some _); (walk_at "hp")
  | intro _
  | assumption)
local macro_rules | `(tactic| walk_at "rd") => `(tactic| repeat walk_at "st")
section
variable {P : Program} {w : World} {K : PySem.W.Frag} {mg : Str → Option Value} {base : Heap} {Ad : Nat → Addr}
theorem gx_law_kind (T : Txt K mg) (R : Ers K mg Ad) : GivesX P w K mg base 1 "_law_kind" (spKind Ad) := by
  refine givesX_fun T.d_law_kind sc_law_kind (fun _ _ _ _ _ _ us hl => match us, hl with | [_], _ => rfl) (fun p vs H Q E h => ?_) (fun f cdv A outer s H vs Q p hot hr h => ?_)
  · obtain ⟨k, dd, fs, rfl, _⟩ := h
    rfl
  · obtain ⟨k, dd, fs, rfl, hk, hz, hf, hdd, q⟩ := h
    refine ⟨_, (pss_cons (ps_set (i := 1) sc_law_kind.nd rfl (Or.inl rfl) (pe_lst (pa_cons (pe_callB (call_isJ (k := k) R hk 1 (by decide) (List.mem_cons_self) hz hf) (by rfl) T.n_isinstance (by decide +kernel) (pa_cons (pv 0) (pa_cons (pe_gd (by rfl) R.g1) pa_nil))) (pa_cons (pe_callB (call_isJ (k := k) R hk 2 (by decide) (List.mem_cons_self) hz hf) (by rfl) T.n_isinstance (by decide +kernel) (pa_cons (pv 0) (pa_cons (pe_gd (by rfl) R.g2) pa_nil))) (pa_cons (pe_callB (call_isJ (k := k) R hk 3 (by decide) (List.mem_cons_self) hz hf) (by rfl) T.n_isinstance (by decide +kernel) (pa_cons (pv 0) (pa_cons (pe_gd (by rfl) R.g3) pa_nil))) pa_nil)))))
      (pss_cons (ps_set (i := 1) sc_law_kind.nd rfl (Or.inl rfl) (pe_op op_cat (pv 1) (pe_lst (pa_cons (pe_callB (call_isJ (k := k) R hk 4 (by decide) (List.mem_cons_self) hz hf) (by rfl) T.n_isinstance (by decide +kernel) (pa_cons (pv 0) (pa_cons (pe_gd (by rfl) R.g4) pa_nil))) (pa_cons (pe_callB (call_isJ (k := k) R hk 5 (by decide) (List.mem_cons_self) hz hf) (by rfl) T.n_isinstance (by decide +kernel) (pa_cons (pv 0) (pa_cons (pe_gd (by rfl) R.g5) pa_nil))) (pa_cons (pe_callB (call_isJ (k := k) R hk 6 (by decide) (List.mem_cons_self) hz hf) (by rfl) T.n_isinstance (by decide +kernel) (pa_cons (pv 0) (pa_cons (pe_gd (by rfl) R.g6) pa_nil))) pa_nil))))))
      (pss_cons (ps_set (i := 1) sc_law_kind.nd rfl (Or.inl rfl) (pe_op op_cat (pv 1) (pe_lst (pa_cons (pe_callB (call_isJ (k := k) R hk 7 (by decide) (List.mem_cons_self) hz hf) (by rfl) T.n_isinstance (by decide +kernel) (pa_cons (pv 0) (pa_cons (pe_gd (by rfl) R.g7) pa_nil))) (pa_cons (pe_callB (call_isJ (k := k) R hk 8 (by decide) (List.mem_cons_self) hz hf) (by rfl) T.n_isinstance (by decide +kernel) (pa_cons (pv 0) (pa_cons (pe_gd (by rfl) R.g8) pa_nil))) (pa_cons (pe_callB (call_isJ (k := k) R hk 9 (by decide) (List.mem_cons_self) hz hf) (by rfl) T.n_isinstance (by decide +kernel) (pa_cons (pv 0) (pa_cons (pe_gd (by rfl) R.g9) pa_nil))) pa_nil))))))
      (pss_cons (ps_set (i := 1) sc_law_kind.nd rfl (Or.inl rfl) (pe_op op_cat (pv 1) (pe_lst (pa_cons (pe_callB (call_isJ (k := k) R hk 10 (by decide) (List.mem_cons_self) hz hf) (by rfl) T.n_isinstance (by decide +kernel) (pa_cons (pv 0) (pa_cons (pe_gd (by rfl) R.g10) pa_nil))) (pa_cons (pe_callB (call_isJ (k := k) R hk 11 (by decide) (List.mem_cons_self) hz hf) (by rfl) T.n_isinstance (by decide +kernel) (pa_cons (pv 0) (pa_cons (pe_gd (by rfl) R.g11) pa_nil))) (pa_cons (pe_callB (call_isJ (k := k) R hk 12 (by decide) (List.mem_cons_self) hz hf) (by rfl) T.n_isinstance (by decide +kernel) (pa_cons (pv 0) (pa_cons (pe_gd (by rfl) R.g12) pa_nil))) pa_nil))))))
      (pss_cons (ps_set (i := 1) sc_law_kind.nd rfl (Or.inl rfl) (pe_op op_cat (pv 1) (pe_lst (pa_cons (pe_callB (call_isJ (k := k) R hk 13 (by decide) (List.mem_cons_self) hz hf) (by rfl) T.n_isinstance (by decide +kernel) (pa_cons (pv 0) (pa_cons (pe_gd (by rfl) R.g13) pa_nil))) (pa_cons (pe_callB (call_isJ (k := k) R hk 14 (by decide) (List.mem_cons_self) hz hf) (by rfl) T.n_isinstance (by decide +kernel) (pa_cons (pv 0) (pa_cons (pe_gd (by rfl) R.g14) pa_nil))) (pa_cons (pe_callB (call_isJ (k := k) R hk 16 (by decide) (List.mem_cons_self) hz hf) (by rfl) T.n_isinstance (by decide +kernel) (pa_cons (pv 0) (pa_cons (pe_gd (by rfl) R.g16) pa_nil))) pa_nil))))))
      (pss_cons (ps_set (i := 1) sc_law_kind.nd rfl (Or.inl rfl) (pe_op op_cat (pv 1) (pe_lst (pa_cons (pe_callB (call_isJ (k := k) R hk 17 (by decide) (List.mem_cons_self) hz hf) (by rfl) T.n_isinstance (by decide +kernel) (pa_cons (pv 0) (pa_cons (pe_gd (by rfl) R.g17) pa_nil))) (pa_cons (pe_callB (call_isJ (k := k) R hk 18 (by decide) (List.mem_cons_self) hz hf) (by rfl) T.n_isinstance (by decide +kernel) (pa_cons (pv 0) (pa_cons (pe_gd (by rfl) R.g18) pa_nil))) (pa_cons (pe_callB (call_isJ (k := k) R hk 19 (by decide) (List.mem_cons_self) hz hf) (by rfl) T.n_isinstance (by decide +kernel) (pa_cons (pv 0) (pa_cons (pe_gd (by rfl) R.g19) pa_nil))) pa_nil))))))
      (pss_cons (ps_set (i := 1) sc_law_kind.nd rfl (Or.inl rfl) (pe_op op_cat (pv 1) (pe_lst (pa_cons (pe_callB (call_isJ (k := k) R hk 20 (by decide) (List.mem_cons_self) hz hf) (by rfl) T.n_isinstance (by decide +kernel) (pa_cons (pv 0) (pa_cons (pe_gd (by rfl) R.g20) pa_nil))) (pa_cons (pe_callB (call_isJ (k := k) R hk 22 (by decide) (List.mem_cons_self) hz hf) (by rfl) T.n_isinstance (by decide +kernel) (pa_cons (pv 0) (pa_cons (pe_gd (by rfl) R.g22) pa_nil))) (pa_cons (pe_callB (call_isJ (k := k) R hk 23 (by decide) (List.mem_cons_self) hz hf) (by rfl) T.n_isinstance (by decide +kernel) (pa_cons (pv 0) (pa_cons (pe_gd (by rfl) R.g23) pa_nil))) pa_nil))))))
      (pss_cons (ps_set (i := 1) sc_law_kind.nd rfl (Or.inl rfl) (pe_op op_cat (pv 1) (pe_lst (pa_cons (pe_callB (call_isJ (k := k) R hk 24 (by decide) (List.mem_cons_self) hz hf) (by rfl) T.n_isinstance (by decide +kernel) (pa_cons (pv 0) (pa_cons (pe_gd (by rfl) R.g24) pa_nil))) pa_nil))))
      (pss_cons (ps_set (i := 2) sc_law_kind.nd rfl (Or.inl rfl) (pe_lst (pa_cons (pe_callB (call_isJ (k := k) R hk 0 (by decide) (List.mem_cons_self) hz hf) (by rfl) T.n_isinstance (by decide +kernel) (pa_cons (pv 0) (pa_cons (pe_gd (by rfl) R.g0) pa_nil))) (pa_cons (pe_callB (call_isJ (k := k) R hk 15 (by decide) (List.mem_cons_self) hz hf) (by rfl) T.n_isinstance (by decide +kernel) (pa_cons (pv 0) (pa_cons (pe_gd (by rfl) R.g15) pa_nil))) (pa_cons (pe_callB (call_isJ (k := k) R hk 21 (by decide) (List.mem_cons_self) hz hf) (by rfl) T.n_isinstance (by decide +kernel) (pa_cons (pv 0) (pa_cons (pe_gd (by rfl) R.g21) pa_nil))) pa_nil)))))
      (pss_cons (ps_set (i := 3) sc_law_kind.nd rfl (Or.inl rfl) (pe_lst (pa_cons (pe_callB (call_isB (k := k) R hk (R.kitV k hk) (List.mem_cons_self) hz hf) (by rfl) T.n_isinstance (by decide +kernel) (pa_cons (pv 0) (pa_cons (pe_bltn (v := .ty "ValueError") (by rfl) T.n_ValueError (by decide +kernel) rfl) pa_nil))) (pa_cons (pe_callB (call_isB (k := k) R hk (R.kitL k hk) (List.mem_cons_self) hz hf) (by rfl) T.n_isinstance (by decide +kernel) (pa_cons (pv 0) (pa_cons (pe_bltn (v := .ty "LookupError") (by rfl) T.n_LookupError (by decide +kernel) rfl) pa_nil))) (pa_cons (pe_callB (call_isB (k := k) R hk (R.kitA k hk) (List.mem_cons_self) hz hf) (by rfl) T.n_isinstance (by decide +kernel) (pa_cons (pv 0) (pa_cons (pe_bltn (v := .ty "ArithmeticError") (by rfl) T.n_ArithmeticError (by decide +kernel) rfl) pa_nil))) pa_nil)))))
      (pss_cons (ps_if (PW.pt (pw_or (pt_cmpR op_ne (pe_bm PySem.F.plainAttrs_list PySem.F.slot_list_count PySem.F.type_list_count mt_countB (pv 1) (pa_cons pe_bl pa_nil)) pe_int (nomark _)) (pw_or1 (pt_cmpR (op_neD (unitsH hr)) (pv 3) (pv 2) (nomark _))))) (pss_one (ps_ret (pe_op op_sub pe_int pe_int))) pss_nil)
      (pss_cons (ps_set (i := 4) sc_law_kind.nd rfl (Or.inl rfl) (pe_bm PySem.F.plainAttrs_list PySem.F.slot_list_index PySem.F.type_list_index mt_index (pv 1) (pa_cons pe_bl pa_nil)))
      (pss_one (ps_ret (pe_ifExp (pt_cmpR (op_eqD (unitsH hr)) (pv 2) (pe_lst (pa_cons (pe_cmpR op_lt (pv 4) pe_int (nomark _)) (pa_cons (pe_chain op_lt op_lt pe_int (pv 4) pe_int) (pa_cons (pe_cmpR op_gt (pv 4) pe_int (nomark _)) pa_nil)))) (nomark _)) (pv 4) (pe_op op_sub pe_int pe_int)))))))))))))))), ?_⟩
    refine seq_then (fun σ' H' => ∃ l, σ' = [some (.ref p.1), some (.ref l), none, none, none] ∧ L2.Same H H' ∧ H' l = some (.lst (((found22 k).take 3).map V.bl))) ?_ (fun U hU => ?_)
    rotate_left
    · walk_at "rd"
      exact hU _ _ ⟨_, rfl, by walk_at "sm", by rw [upd_same]; rcases lt3 hk with e | e | e <;> subst e <;> rfl⟩
    rintro σ' H0 ⟨l0, rfl, s0, hl0⟩
    have hd0 : H0 dd = some (.xd fs) := s0 _ _ hdd
    refine seq_then (fun σ' H' => ∃ l, σ' = [some (.ref p.1), some (.ref l), none, none, none] ∧ L2.Same H H' ∧ H' l = some (.lst (((found22 k).take 6).map V.bl))) ?_ (fun U hU => ?_)
    rotate_left
    · walk_at "rd"
      exact hU _ _ ⟨_, rfl, by walk_at "sm", by rw [upd_same]; rcases lt3 hk with e | e | e <;> subst e <;> rfl⟩
    rintro σ' H1 ⟨l1, rfl, s1, hl1⟩
    have hd1 : H1 dd = some (.xd fs) := s1 _ _ hdd
    clear hd0 hl0 s0 l0 H0
    refine seq_then (fun σ' H' => ∃ l, σ' = [some (.ref p.1), some (.ref l), none, none, none] ∧ L2.Same H H' ∧ H' l = some (.lst (((found22 k).take 9).map V.bl))) ?_ (fun U hU => ?_)
    rotate_left
    · walk_at "rd"
      exact hU _ _ ⟨_, rfl, by walk_at "sm", by rw [upd_same]; rcases lt3 hk with e | e | e <;> subst e <;> rfl⟩
    rintro σ' H2 ⟨l2, rfl, s2, hl2⟩
    have hd2 : H2 dd = some (.xd fs) := s2 _ _ hdd
    clear hd1 hl1 s1 l1 H1
    refine seq_then (fun σ' H' => ∃ l, σ' = [some (.ref p.1), some (.ref l), none, none, none] ∧ L2.Same H H' ∧ H' l = some (.lst (((found22 k).take 12).map V.bl))) ?_ (fun U hU => ?_)
    rotate_left
    · walk_at "rd"
      exact hU _ _ ⟨_, rfl, by walk_at "sm", by rw [upd_same]; rcases lt3 hk with e | e | e <;> subst e <;> rfl⟩
    rintro σ' H3 ⟨l3, rfl, s3, hl3⟩
    have hd3 : H3 dd = some (.xd fs) := s3 _ _ hdd
    clear hd2 hl2 s2 l2 H2
    refine seq_then (fun σ' H' => ∃ l, σ' = [some (.ref p.1), some (.ref l), none, none, none] ∧ L2.Same H H' ∧ H' l = some (.lst (((found22 k).take 15).map V.bl))) ?_ (fun U hU => ?_)
    rotate_left
    · walk_at "rd"
      exact hU _ _ ⟨_, rfl, by walk_at "sm", by rw [upd_same]; rcases lt3 hk with e | e | e <;> subst e <;> rfl⟩
    rintro σ' H4 ⟨l4, rfl, s4, hl4⟩
    have hd4 : H4 dd = some (.xd fs) := s4 _ _ hdd
    clear hd3 hl3 s3 l3 H3
    refine seq_then (fun σ' H' => ∃ l, σ' = [some (.ref p.1), some (.ref l), none, none, none] ∧ L2.Same H H' ∧ H' l = some (.lst (((found22 k).take 18).map V.bl))) ?_ (fun U hU => ?_)
    rotate_left
    · walk_at "rd"
      exact hU _ _ ⟨_, rfl, by walk_at "sm", by rw [upd_same]; rcases lt3 hk with e | e | e <;> subst e <;> rfl⟩
    rintro σ' H5 ⟨l5, rfl, s5, hl5⟩
    have hd5 : H5 dd = some (.xd fs) := s5 _ _ hdd
    clear hd4 hl4 s4 l4 H4
    refine seq_then (fun σ' H' => ∃ l, σ' = [some (.ref p.1), some (.ref l), none, none, none] ∧ L2.Same H H' ∧ H' l = some (.lst (((found22 k).take 21).map V.bl))) ?_ (fun U hU => ?_)
    rotate_left
    · walk_at "rd"
      exact hU _ _ ⟨_, rfl, by walk_at "sm", by rw [upd_same]; rcases lt3 hk with e | e | e <;> subst e <;> rfl⟩
    rintro σ' H6 ⟨l6, rfl, s6, hl6⟩
    have hd6 : H6 dd = some (.xd fs) := s6 _ _ hdd
    clear hd5 hl5 s5 l5 H5
    refine seq_then (fun σ' H' => ∃ l, σ' = [some (.ref p.1), some (.ref l), none, none, none] ∧ L2.Same H H' ∧ H' l = some (.lst (((found22 k).take 22).map V.bl))) ?_ (fun U hU => ?_)
    rotate_left
    · walk_at "rd"
      exact hU _ _ ⟨_, rfl, by walk_at "sm", by rw [upd_same]; rcases lt3 hk with e | e | e <;> subst e <;> rfl⟩
    rintro σ' H7 ⟨l7, rfl, s7, hl7⟩
    have hd7 : H7 dd = some (.xd fs) := s7 _ _ hdd
    clear hd6 hl6 s6 l6 H6
    refine seq_then (fun σ' H' => ∃ l, σ' = [some (.ref p.1), some (.ref l7), some (.ref l), none, none] ∧ L2.Same H H' ∧ H' l7 = some (.lst (((found22 k).take 22).map V.bl)) ∧ H' l = some (.lst (([true, false, false] : List Bool).map V.bl))) ?_ (fun U hU => ?_)
    rotate_left
    · walk_at "rd"
      exact hU _ _ ⟨_, rfl, by walk_at "sm", by walk_at "hp", by rw [upd_same]; rcases lt3 hk with e | e | e <;> subst e <;> rfl⟩
    rintro σ' Ho ⟨lo, rfl, so, hfo, hlo⟩
    have hdo : Ho dd = some (.xd fs) := so _ _ hdd
    clear hd7 hl7 s7 H7
    refine seq_then (fun σ' H' => ∃ l, σ' = [some (.ref p.1), some (.ref l7), some (.ref lo), some (.ref l), none] ∧ L2.Same H H' ∧ H' l7 = some (.lst (((found22 k).take 22).map V.bl)) ∧ H' lo = some (.lst (([true, false, false] : List Bool).map V.bl)) ∧ H' l = some (.lst (([true, false, false] : List Bool).map V.bl))) ?_ (fun U hU => ?_)
    rotate_left
    · walk_at "rd"
      exact hU _ _ ⟨_, rfl, by walk_at "sm", by walk_at "hp", by walk_at "hp", by rw [upd_same]; rcases lt3 hk with e | e | e <;> subst e <;> rfl⟩
    rintro σ' Hw ⟨lw, rfl, sw, hfw, hb, hlw⟩
    have hdw : Hw dd = some (.xd fs) := sw _ _ hdd
    clear hdo hlo hfo so Ho
    rcases lt3 hk with e | e | e <;> subst e
    · walk_at "rd"
      refine ⟨_, _, .lst (.inl (.inl hlw)) (dpB _), .lst (.inl (.inl hb)) (dpB _), by decide, by decide, _, rfl, ?_⟩
      walk_at "rd"
      refine ⟨_, _, .bl true, 0, .bl true, rfl, rfl, .inl (.inl hfw), rfl, by decide +kernel, rfl, rfl, no_before (by decide +kernel), ?_⟩
      walk_at "rd"
      refine ⟨_, _, .lst (.inl (.inl (by walk_at "hp"))) (dpB _), .lst (.inl (.inl upd_same)) (.cons (.bl _) (.cons (.bl _) (.cons (.bl _) .nil))), by decide, by decide, _, rfl, ?_⟩
      walk_at "rd"
      exact q _ (by walk_at "sm")
    · walk_at "rd"
      refine ⟨_, _, .lst (.inl (.inl hlw)) (dpB _), .lst (.inl (.inl hb)) (dpB _), by decide, by decide, _, rfl, ?_⟩
      walk_at "rd"
      refine ⟨_, _, .bl true, 1, .bl true, rfl, rfl, .inl (.inl hfw), rfl, by decide +kernel, rfl, rfl, no_before (by decide +kernel), ?_⟩
      walk_at "rd"
      refine ⟨_, _, .lst (.inl (.inl (by walk_at "hp"))) (dpB _), .lst (.inl (.inl upd_same)) (.cons (.bl _) (.cons (.bl _) (.cons (.bl _) .nil))), by decide, by decide, _, rfl, ?_⟩
      walk_at "rd"
      exact q _ (by walk_at "sm")
    · walk_at "rd"
      refine ⟨_, _, .lst (.inl (.inl hlw)) (dpB _), .lst (.inl (.inl hb)) (dpB _), by decide, by decide, _, rfl, ?_⟩
      walk_at "rd"
      refine ⟨_, _, .bl true, 2, .bl true, rfl, rfl, .inl (.inl hfw), rfl, by decide +kernel, rfl, rfl, no_before (by decide +kernel), ?_⟩
      walk_at "rd"
      refine ⟨_, _, .lst (.inl (.inl (by walk_at "hp"))) (dpB _), .lst (.inl (.inl upd_same)) (.cons (.bl _) (.cons (.bl _) (.cons (.bl _) .nil))), by decide, by decide, _, rfl, ?_⟩
      walk_at "rd"
      exact q _ (by walk_at "sm")
end
end Cb
end

section
set_option maxRecDepth 100000
set_option maxHeartbeats 4000000

namespace Cb
open PySem PySem.Spec PyProof.Rows L2
open LamX C8
theorem exm1 {K : PySem.W.Frag} {mg : Str → Option Value} {Ad : Nat → Addr} {k j1 : Nat} (R : Ers K mg Ad) (hk : k < 3) (h1 : j1 < 25) : PySem.W.exmAny K (.ref (Ad (k + 1))) [.ref (Ad j1)] = some (decide (j1 = 0 ∨ j1 = k + 1) || false) := by
  simp only [PySem.W.exmAny, R.exm k hk j1 h1]
theorem exm2 {K : PySem.W.Frag} {mg : Str → Option Value} {Ad : Nat → Addr} {k j1 j2 : Nat} (R : Ers K mg Ad) (hk : k < 3) (h1 : j1 < 25) (h2 : j2 < 25) : PySem.W.exmAny K (.ref (Ad (k + 1))) [.ref (Ad j1), .ref (Ad j2)] = some (decide (j1 = 0 ∨ j1 = k + 1) || (decide (j2 = 0 ∨ j2 = k + 1) || false)) := by
  simp only [PySem.W.exmAny, R.exm k hk j1 h1, R.exm k hk j2 h2]
theorem exm4 {K : PySem.W.Frag} {mg : Str → Option Value} {Ad : Nat → Addr} {k j1 j2 j3 j4 : Nat} (R : Ers K mg Ad) (hk : k < 3) (h1 : j1 < 25) (h2 : j2 < 25) (h3 : j3 < 25) (h4 : j4 < 25) : PySem.W.exmAny K (.ref (Ad (k + 1))) [.ref (Ad j1), .ref (Ad j2), .ref (Ad j3), .ref (Ad j4)] = some (decide (j1 = 0 ∨ j1 = k + 1) || (decide (j2 = 0 ∨ j2 = k + 1) || (decide (j3 = 0 ∨ j3 = k + 1) || (decide (j4 = 0 ∨ j4 = k + 1) || false)))) := by
  simp only [PySem.W.exmAny, R.exm k hk j1 h1, R.exm k hk j2 h2, R.exm k hk j3 h3, R.exm k hk j4 h4]
theorem ErrTxt.xf {K : PySem.W.Frag} {mg : Str → Option Value} {b : ErrB} {x : Str} {C : Addr} (T : ErrTxt K mg b x C) : XfC K C := ⟨T.ga, T.gg, T.exC, T.hdC⟩
/-- n.f, n the error that is handled, of whichever class -/
def tXfA (K : PySem.W.Frag) (a : Addr) (cls : Value) (d : Option Addr) (f : Str) (te : TE) : TE := fun σ H Q => ∃ C, XfC K C ∧ PySem.W.findIn K (.ref C) f = some none ∧ tXf a cls d C f te σ H Q
theorem pe_xfA {X : Cx} {a : Addr} {oe : Obj} {cls : Value} {d : Option Addr} {pn : List (Addr × Obj)} {e : Expr} {te : TE} {pos : Pos} {n : Str} (hz : Zc cls d oe) (hf : ∃ vs, oe.data = .fields vs) (he : PE (X.suite a ((a, oe) :: pn)) e te) (hb : attributeBase e n X.env (eval e X.env) = eval e X.env := by rfl) :
    PE (X.suite a ((a, oe) :: pn)) (.Attribute e n pos) (tXfA X.K a cls d n te) :=
  ⟨fun pins s σ H Q I ⟨C, T, hno, h⟩ => (pe_xf T hno hz hf he hb).run pins s σ H Q I h⟩
def tKind (Ad : Nat → Addr) (i : Nat) (a : Addr) (cls : Value) (d : Option Addr) : TE := fun σ H Q => σ[i]? = some (some (.ref a)) ∧ ∃ (k dd : Nat) (fs : List (Str × V)), k < 3 ∧ cls = .ref (Ad (k + 1)) ∧ d = some dd ∧ H dd = some (.xd fs) ∧ ∀ H', L2.Same H H' → Q (.int (k : Int)) H'
theorem pe_kind {X : Cx} {Ad : Nat → Addr} {a : Addr} {oe : Obj} {cls : Value} {d : Option Addr} {pn : List (Addr × Obj)} {e : Expr} {i : Nat} {q pos : Pos} (F : GivesX X.prog X.w X.K X.mg X.base 1 "_law_kind" (spKind Ad)) (hr : Room 1 X.A) (hz : Zc cls d oe) (hf : ∃ vs, oe.data = .fields vs) (hg : Gl X "_law_kind") (ha : PA (X.suite a ((a, oe) :: pn)) [e] (tCons (tVar i) tNil))
    (he : starEach (e :: []) X.env = (false, eval e X.env) :: starEach [] X.env := by rfl) (hpl : (backTo pos (starEach [] X.env)).any (·.1) = false := by rfl) : PE (X.suite a ((a, oe) :: pn)) (.Call (.Name "_law_kind" q) [e] [] pos) (tKind Ad i a cls d) :=
  PE.imp (pe_ownX (X := X.suite a ((a, oe) :: pn)) (p := (a, oe)) F ⟨(L2H.roomH_of hr).dp, (L2H.roomH_of hr).un⟩ rfl List.mem_cons_self hg ha (by decide) he hpl) fun σ H Q ⟨hs, k, dd, fs, e2, e3, e4, e5, e6⟩ => ⟨_, hs, k, dd, fs, rfl, e2, by subst e3 e4; exact hz, hf, e5, e6⟩
local macro_rules | `(tactic| walk_at "pl") => `(tactic| first
  | with_reducible assumption
  | ((with_reducible apply PoolAt.new); (with_reducible assumption); walk_at "pl")
  | ((with_reducible apply PoolAt.same'); (with_reducible assumption); walk_at "pl"))
local macro_rules | `(tactic| walk_at "hp") => `(tactic| first
  | with_reducible assumption
  | with_reducible exact upd_same
  | ((with_reducible apply upd_new); (with_reducible assumption); walk_at "hp")
  | ((with_reducible apply hp_same); (with_reducible assumption); walk_at "hp")
  | ((with_reducible apply but_tup); (with_reducible assumption); walk_at "pl"; walk_at "hp")
  | ((with_reducible apply but_lst); (with_reducible assumption); walk_at "pl"; walk_at "hp"; first | exact rfl | assumption | exact npool_app (by omega)))
local macro_rules | `(tactic| walk_at "da") => `(tactic| first
  | with_reducible assumption
  | with_reducible exact DA.int _
  | with_reducible exact DA.str _
  | with_reducible exact DA.bl _
  | with_reducible exact DA.non
  | ((with_reducible apply DA.tup); (with_reducible exact upd_same); walk_at "dal")
  | ((with_reducible apply DA.lst); (with_reducible exact upd_same); exact rfl; exact rfl; walk_at "dal")
  | with_reducible exact DA.dct upd_same
  | ((with_reducible apply DA.new); (with_reducible assumption); walk_at "da")
  | ((with_reducible apply DA.same'); (with_reducible assumption); walk_at "da")
  | ((with_reducible apply DA.but'); (with_reducible assumption); walk_at "pl"; walk_at "da"))
local macro_rules | `(tactic| walk_at "dal") => `(tactic| first
  | exact DAll.nil
  | (apply DAll.cons; walk_at "da"; walk_at "dal"))
local macro_rules | `(tactic| walk_at "ft") => `(tactic| first
  | with_reducible assumption
  | apply Fit.non'
  | apply Fit.bl'
  | (apply Fit.str (n := 20); decide +kernel)
  | (apply Fit.int'; first | decide | omega)
  | (apply Fit.tup'; walk_at "fta")
  | (apply Fit.lst'; walk_at "fta"))
local macro_rules | `(tactic| walk_at "fta") => `(tactic| first
  | apply FitAll.nil'
  | (apply FitAll.cons'; walk_at "ft"; walk_at "fta"))
local macro_rules | `(tactic| walk_at "sm") => `(tactic| first
  | with_reducible assumption
  | with_reducible exact L2.Same.refl _
  | ((with_reducible apply sm_new); (with_reducible assumption); walk_at "sm")
  | ((with_reducible apply sm_same); (with_reducible assumption); walk_at "sm"))
local macro_rules | `(tactic| walk_at "sb") => `(tactic| first
  | with_reducible assumption
  | with_reducible exact SameBut.refl _ _
  | ((with_reducible apply sb_new); (with_reducible assumption); walk_at "sb")
  | ((with_reducible apply sb_but); (with_reducible assumption); walk_at "sb")
  | ((with_reducible apply sb_same); (with_reducible assumption); walk_at "sb"))
local macro_rules | `(tactic| walk_at "sq") => `(tactic| first
  | (refine Or.inl (Or.inl ?_); walk_at "hp")
  | (refine Or.inr (Or.inl (Or.inl ?_)); walk_at "hp")
  | (refine Or.inl (Or.inl (Or.inl ?_)); walk_at "hp")
  | exact (by assumption : ∀ H', SqT _ H' _ _) _
  | exact Or.inr ((by assumption : ∀ H', SqT _ H' _ _) _))
local macro_rules | `(tactic| walk_at "dt") => `(tactic| first
  | with_reducible assumption
  | apply (by assumption : ∀ b, Dat b _ _ _ _)
  | (with_reducible apply Dat.non)
  | (with_reducible apply Dat.bl)
  | ((with_reducible apply Dat.str); first | decide +kernel | exact name_short _)
  | ((with_reducible apply Dat.int); first | decide | omega)
  | ((with_reducible apply Dat.intW); decide)
  | ((with_reducible apply Dat.dc1); with_reducible exact upd_same)
  | ((with_reducible apply Dat.up'); (first | (with_reducible assumption) | apply (by assumption : ∀ b, Dat b _ _ _ _)); omega)
  | ((with_reducible apply Dat.tup); (with_reducible exact upd_same); walk_at "dtl")
  | ((with_reducible apply Dat.lst); (with_reducible exact upd_same); (first | exact rfl | assumption); (first | exact rfl | assumption); walk_at "dtl")
  | ((with_reducible apply Dat.dct); with_reducible exact upd_same)
  | ((with_reducible apply Dat.new); (with_reducible assumption); walk_at "dt")
  | ((with_reducible apply Dat.same'); (with_reducible assumption); walk_at "dt")
  | ((with_reducible apply Dat.but'); (with_reducible assumption); walk_at "pl"; walk_at "dt")
  | ((with_reducible apply Dat.ofE); (with_reducible assumption); omega)
  | ((with_reducible apply Dat.leaf); (with_reducible assumption); assumption; assumption; decide; omega))
local macro_rules | `(tactic| walk_at "dtl") => `(tactic| first
  | apply DatL.nil
  | ((with_reducible apply DatL.cons); walk_at "dt"; walk_at "dtl")
  | with_reducible assumption
  | apply (by assumption : ∀ b, DatL b _ _ _ _)
  | ((with_reducible apply DatL.up'); (first | (with_reducible assumption) | apply (by assumption : ∀ b, DatL b _ _ _ _)); omega)
  | ((with_reducible apply DatL.new); (with_reducible assumption); walk_at "dtl")
  | ((with_reducible apply DatL.same'); (with_reducible assumption); walk_at "dtl")
  | ((with_reducible apply DatL.but'); (with_reducible assumption); walk_at "pl"; walk_at "dtl"))
local macro_rules | `(tactic| walk_at "al") => `(tactic| first
  | exact AllD.nil
  | ((with_reducible apply AllD.cons); walk_at "dt"; omega; walk_at "al")
  | with_reducible assumption
  | ((with_reducible apply AllD.app); walk_at "al"; walk_at "al")
  | ((with_reducible apply AllD.new); (with_reducible assumption); walk_at "al")
  | ((with_reducible apply AllD.same'); (with_reducible assumption); walk_at "al")
  | ((with_reducible apply AllD.but'); (with_reducible assumption); walk_at "pl"; walk_at "al"))
local macro_rules | `(tactic| walk_at "pt") => `(tactic| first
  | with_reducible assumption
  | ((with_reducible apply PatAt.new); (with_reducible assumption); walk_at "pt")
  | ((with_reducible apply PatAt.same'); (with_reducible assumption); walk_at "pt")
  | ((with_reducible apply PatAt.but'); (with_reducible assumption); walk_at "pl"; walk_at "pt"))
local macro_rules | `(tactic| walk_at "db") => `(tactic| first
  | with_reducible assumption
  | ((with_reducible apply DatB.new); (with_reducible assumption); walk_at "db")
  | ((with_reducible apply DatB.same'); (with_reducible assumption); walk_at "db")
  | ((with_reducible apply DatB.but'); (with_reducible assumption); walk_at "pl"; walk_at "db"))
local macro_rules | `(tactic| walk_at "dn") => `(tactic| first
  | with_reducible assumption
  | (with_reducible apply Dno.non)
  | (with_reducible apply Dno.bl)
  | ((with_reducible apply Dno.str); decide +kernel; exact rfl)
  | ((with_reducible apply Dno.int); decide)
  | ((with_reducible apply Dno.tup); (with_reducible exact upd_same); walk_at "dtl")
  | ((with_reducible apply Dno.lst); (with_reducible exact upd_same); exact rfl; exact rfl; walk_at "dtl")
  | ((with_reducible apply Dno.dct); with_reducible exact upd_same)
  | ((with_reducible apply Dno.new); (with_reducible assumption); walk_at "dn")
  | ((with_reducible apply Dno.same'); (with_reducible assumption); walk_at "dn")
  | ((with_reducible apply Dno.but'); (with_reducible assumption); walk_at "pl"; walk_at "dn"))
local macro_rules | `(tactic| walk_at "an") => `(tactic| first
  | exact AllN.nil
  | ((with_reducible apply AllN.cons); walk_at "dn"; omega; walk_at "an")
  | with_reducible assumption
  | ((with_reducible apply AllN.app); walk_at "an"; walk_at "an")
  | ((with_reducible apply AllN.new); (with_reducible assumption); walk_at "an")
  | ((with_reducible apply AllN.same'); (with_reducible assumption); walk_at "an")
  | ((with_reducible apply AllN.but'); (with_reducible assumption); walk_at "pl"; walk_at "an"))
local macro_rules | `(tactic| walk_at "st") => `(tactic| first
  | (with_reducible show upd _ _ _ _ = some _); (walk_at "hp")
  | (with_reducible show L2.Same _ _); (walk_at "sm")
  | (with_reducible refine And.intro ?_ ?_)
  | exact rfl
  | with_reducible assumption
  | (with_reducible show DA _ _ _); (walk_at "da")
  | (with_reducible show PoolAt _ _); (walk_at "pl")
  | (with_reducible show Dat _ _ _ _ _); (walk_at "dt")
  | (with_reducible show Fit _ _ _ _); (walk_at "ft")
  | (with_reducible show PatAt _ _ _); (walk_at "pt")
  | (with_reducible show SameBut _ _ _); (walk_at "sb")
  | (with_reducible show _ ≤ sizeLine); (first | exact len_line _ rfl | exact len_line2 _ _ rfl rfl | decide | omega | exact Nat.le_trans (m := 200000) (by omega) (by decide) | exact Nat.le_trans (m := 200000) (by simp only [List.length_cons, List.length_nil]; omega) (by decide))
  | (with_reducible first | show (_ : Int) ≤ _ | show (_ : Int) < _ | show (_ : Nat) ≤ _ | show (_ : Nat) < _); (first | omega | (simp only [List.length_append]; omega) | (simp only [List.length_cons, List.length_nil]; omega) | (simp only [List.length_append, List.length_cons, List.length_nil]; omega) | exact Int.lt_of_lt_of_le (by assumption) (by decide))
  | exact cut1_not _ _
  | exact List.cons_ne_nil _ _
  | exact fun h => absurd h (List.cons_ne_nil _ _)
  | exact fun h => (h rfl).elim
  | (with_reducible show DatB _ _ _ _); (walk_at "db")
  | (with_reducible show AllD _ _ _ _); (walk_at "al")
  | exact Or.inl ⟨rfl, _, Or.inl (Or.inl (by walk_at "hp"))⟩
  | exact fun h => absurd h.1 (Nat.ne_of_beq_eq_false rfl)
  | exact fun h => absurd h.2 (Nat.ne_of_beq_eq_false rfl)
  | exact at0 _ _
  | exact at1 _ _ _
  | (refine And.intro ?_ ?_)
  | (fail_if_success first | show (∃ _ : Nat → Nat → L2.St → Hp → Prop, _) | show (∃ _ : Nat → Nat → Hp → Prop, _) | show (∃ _ : Nat → L2.St → Hp → Prop, _) | show (∃ (_ : PyData) (_ : PyData), _) | show (∃ (_ : Addr) (_ : List V) (_ : V) (_ : Nat) (_ : V), _)); (apply Exists.intro)
  | (refine iteT' rfl ?_)
  | (refine iteF' rfl ?_)
  | walk_at "sq"
  | (with_reducible show _ = some _); (walk_at "hp")
  | intro _
  | assumption)
local macro_rules | `(tactic| walk_at "rd") => `(tactic| repeat walk_at "st")
section
variable {P : Program} {w : World} {K : PySem.W.Frag} {mg : Str → Option Value} {base : Heap} {Ad : Nat → Addr}
/-- what the def makes of what it gets -/
def EchG (Ad : Nat → Addr) (Q : VK) : XK := fun cls d H' => ∃ (k dd : Nat) (v : V) (u : PyData) (b : Bool) (n : Nat), k < 3 ∧ cls = .ref (Ad (k + 1)) ∧ d = some dd ∧ H' dd = some (.xd [(errF k, v)]) ∧ DA H' v u ∧ Fit b n 100 u ∧ n ≤ 200000 ∧ ∀ H2 l, L2.Same H' H2 → H' l = none → H2 l = some (.lst [.int (k : Int), .str u.shown]) → Q (.ref l) H2
def TCaught (Ad : Nat → Addr) : (XK → Hp → VK → Prop) → Hp → VK → Prop := fun tl H Q => tl (EchG Ad Q) H fun _ H' => [V.str "none", V.str ""].length ≤ sizeLine ∧ ∀ l, H' l = none → Q (.ref l) (upd H' l (.lst [.str "none", .str ""]))
theorem caught_gives {X : Cx} {Ad : Nat → Addr} {g : Addr} {cdg : Value} {q : Str} (T : Txt X.K X.mg) (R : Ers X.K X.mg Ad) (gk : GivesX X.prog X.w X.K X.mg X.base 1 "_law_kind" (spKind Ad)) (hgd : X.A.guards = some []) (hr2 : Room 2 X.A) :
    GivesTo X ["_law_act", "_law_e"] "_law_caught" (defScope s_law_caught) g cdg (defBody s_law_caught) "_law_act" q (TCaught Ad) := by
  intro f c' s H Q tl act hc h
  have hr : Room 1 (cxOf C8.CX0 X.prog X.w X.K X.mg X.base ["_law_act", "_law_e"] "_law_caught" (defScope s_law_caught) g cdg X.A X.stack s H C8.E0).A := hr2.deeper _
  have hu : (cxOf C8.CX0 X.prog X.w X.K X.mg X.base ["_law_act", "_law_e"] "_law_caught" (defScope s_law_caught) g cdg X.A X.stack s H C8.E0).A.units + (100 + 1) < cLine := unitsN hr
  refine ⟨_, pss_cons (ps_clauses (X := (cxOf C8.CX0 X.prog X.w X.K X.mg X.base ["_law_act", "_law_e"] "_law_caught" (defScope s_law_caught) g cdg X.A X.stack s H C8.E0).nox) (i := 1)
      (tb := fun W D σ H => ∃ Ech : XK, (∀ cls d σ' H', Ech cls d H' → W cls d σ' H') ∧ σ[0]? = some (some (.ref f)) ∧ H c' = some (CodeO c' q) ∧ tl Ech H fun _ H' => D.nx σ H')
      rfl rfl sc_law_caught.nd rfl (by exact (by decide +kernel : List.lookup ("_law_e" : Str) (defScope s_law_caught).names = some NameKind.local)) LamX.takes0 (fun W pn xe tk _ => ?_) (.cons (test_two ⟨rfl, by decide, .inl R.g3⟩ ⟨rfl, by decide, .inl R.g12⟩) (fun a oe cls d pn hz hf => (pss_one (ps_ret (pe_lst (pa_cons (pe_kind (i := 1) gk hr hz hf rfl (pa_cons (pv 1) pa_nil)) (pa_cons (pe_callB (call_reprD (m := 100) hgd hu) (by rfl) T.n_repr (by decide +kernel) (pa_cons (pe_xfA hz hf (pv 1)) pa_nil)) pa_nil))))))
      (.cons (test_one ⟨rfl, by decide, .inl R.g9⟩) (fun a oe cls d pn hz hf => (pss_one (ps_ret (pe_lst (pa_cons (pe_kind (i := 1) gk hr hz hf rfl (pa_cons (pv 1) pa_nil)) (pa_cons (pe_callB (call_reprD (m := 100) hgd hu) (by rfl) T.n_repr (by decide +kernel) (pa_cons (pe_xfA hz hf (pv 1)) pa_nil)) pa_nil))))))
      (.cons (test_one ⟨rfl, by decide, .inl R.g14⟩) (fun a oe cls d pn hz hf => (pss_one (ps_ret (pe_lst (pa_cons (pe_kind (i := 1) gk hr hz hf rfl (pa_cons (pv 1) pa_nil)) (pa_cons (pe_callB (call_reprD (m := 100) hgd hu) (by rfl) T.n_repr (by decide +kernel) (pa_cons (pe_tup (pa_cons (pe_xfA hz hf (pv 1)) (pa_cons (pe_xfA hz hf (pv 1)) pa_nil))) pa_nil)) pa_nil))))))
      (.cons (test_four ⟨rfl, by decide, .inl R.g17⟩ ⟨rfl, by decide, .inl R.g18⟩ ⟨rfl, by decide, .inl R.g19⟩ ⟨rfl, by decide, .inl R.g22⟩) (fun a oe cls d pn hz hf => (pss_one (ps_ret (pe_lst (pa_cons (pe_kind (i := 1) gk hr hz hf rfl (pa_cons (pv 1) pa_nil)) (pa_cons (pe_callB (call_reprD (m := 100) hgd hu) (by rfl) T.n_repr (by decide +kernel) (pa_cons (pe_xfA hz hf (pv 1)) pa_nil)) pa_nil))))))
      (.cons (test_two ⟨rfl, by decide, .inl R.g23⟩ ⟨rfl, by decide, .inl R.g24⟩) (fun a oe cls d pn hz hf => (pss_one (ps_ret (pe_lst (pa_cons (pe_kind (i := 1) gk hr hz hf rfl (pa_cons (pv 1) pa_nil)) (pa_cons (pe_callB (call_reprD (m := 100) hgd hu) (by rfl) T.n_repr (by decide +kernel) (pa_cons (pe_xfA hz hf (pv 1)) pa_nil)) pa_nil))))))
      (.cons (test_one ⟨rfl, by decide, .inl R.g20⟩) (fun a oe cls d pn hz hf => (pss_one (ps_ret (pe_lst (pa_cons (pe_kind (i := 1) gk hr hz hf rfl (pa_cons (pv 1) pa_nil)) (pa_cons pe_str pa_nil))))))
      (.cons (test_two ⟨rfl, by decide, .inl R.g0⟩ ⟨rfl, by decide, .inl R.g16⟩) (fun a oe cls d pn hz hf => (pss_one (ps_ret (pe_lst (pa_cons (pe_kind (i := 1) gk hr hz hf rfl (pa_cons (pv 1) pa_nil)) (pa_cons (pe_callB (call_reprD (m := 100) hgd hu) (by rfl) T.n_repr (by decide +kernel) (pa_cons (pe_xfA hz hf (pv 1)) pa_nil)) pa_nil))))))
      (.cons (test_two ⟨rfl, by decide, .inl R.g15⟩ ⟨rfl, by decide, .inl R.g21⟩) (fun a oe cls d pn hz hf => (pss_one (ps_ret (pe_lst (pa_cons (pe_kind (i := 1) gk hr hz hf rfl (pa_cons (pv 1) pa_nil)) (pa_cons pe_str pa_nil))))))
      Clauses.nil)))))))))
    (pss_one (ps_ret (pe_lst (pa_cons pe_str (pa_cons pe_str pa_nil))))), ?_⟩
  · refine ⟨fun pins s' σ H' D I h' => ?_⟩
    obtain ⟨Ech, hW, h1, h2, h3⟩ := h'
    exact (pss_one (ps_expr (act W pn xe Ech _ _ tk hW))).run pins s' σ H' D I ⟨h1, h2, h3⟩
  · refine ⟨EchG Ad Q, fun cls d σ' H' ⟨k, dd, v, u, b, n, hk, e1, e2, hdd, hv, hfit, hn, hq⟩ => ?_, rfl, hc, h⟩
    subst e1 e2
    rcases lt3 hk with e | e | e <;> subst e
    · refine ⟨_, exm2 R (by decide) (j1 := 3) (by decide) (j2 := 12) (by decide), fun z => absurd z (by decide), fun _ => ?_⟩
      refine ⟨_, exm1 R (by decide) (j1 := 9) (by decide), fun z => absurd z (by decide), fun _ => ?_⟩
      refine ⟨_, exm1 R (by decide) (j1 := 14) (by decide), fun z => absurd z (by decide), fun _ => ?_⟩
      refine ⟨_, exm4 R (by decide) (j1 := 17) (by decide) (j2 := 18) (by decide) (j3 := 19) (by decide) (j4 := 22) (by decide), fun z => absurd z (by decide), fun _ => ?_⟩
      refine ⟨_, exm2 R (by decide) (j1 := 23) (by decide) (j2 := 24) (by decide), fun z => absurd z (by decide), fun _ => ?_⟩
      refine ⟨_, exm1 R (by decide) (j1 := 20) (by decide), fun z => absurd z (by decide), fun _ => ?_⟩
      refine ⟨_, exm2 R (by decide) (j1 := 0) (by decide) (j2 := 16) (by decide), fun _ a na hlen => ?_, fun z => absurd z (by decide)⟩
      match σ', hlen with
      | [x0, x1], _ =>
        refine ⟨rfl, 0, dd, _, by decide, rfl, rfl, hdd, fun H2 s2 => ?_⟩
        obtain ⟨_, J⟩ := R.i1
        refine ⟨_, ErrTxt.xf R.e1, J.noN, _, rfl, rfl, rfl, dd, _, v, rfl, s2 _ _ hdd, rfl, ⟨v, u, b, n, rfl, hv.same s2, hfit, Nat.le_trans hn (by decide), (by show 2 ≤ sizeLine; decide), fun l nl => hq _ l (L2.Same.trans s2 (same_upd nl)) (free_of s2 nl) upd_same⟩⟩
    · refine ⟨_, exm2 R (by decide) (j1 := 3) (by decide) (j2 := 12) (by decide), fun z => absurd z (by decide), fun _ => ?_⟩
      refine ⟨_, exm1 R (by decide) (j1 := 9) (by decide), fun z => absurd z (by decide), fun _ => ?_⟩
      refine ⟨_, exm1 R (by decide) (j1 := 14) (by decide), fun z => absurd z (by decide), fun _ => ?_⟩
      refine ⟨_, exm4 R (by decide) (j1 := 17) (by decide) (j2 := 18) (by decide) (j3 := 19) (by decide) (j4 := 22) (by decide), fun z => absurd z (by decide), fun _ => ?_⟩
      refine ⟨_, exm2 R (by decide) (j1 := 23) (by decide) (j2 := 24) (by decide), fun z => absurd z (by decide), fun _ => ?_⟩
      refine ⟨_, exm1 R (by decide) (j1 := 20) (by decide), fun z => absurd z (by decide), fun _ => ?_⟩
      refine ⟨_, exm2 R (by decide) (j1 := 0) (by decide) (j2 := 16) (by decide), fun _ a na hlen => ?_, fun z => absurd z (by decide)⟩
      match σ', hlen with
      | [x0, x1], _ =>
        refine ⟨rfl, 1, dd, _, by decide, rfl, rfl, hdd, fun H2 s2 => ?_⟩
        obtain ⟨_, J⟩ := R.i2
        refine ⟨_, ErrTxt.xf R.e2, J.noN, _, rfl, rfl, rfl, dd, _, v, rfl, s2 _ _ hdd, rfl, ⟨v, u, b, n, rfl, hv.same s2, hfit, Nat.le_trans hn (by decide), (by show 2 ≤ sizeLine; decide), fun l nl => hq _ l (L2.Same.trans s2 (same_upd nl)) (free_of s2 nl) upd_same⟩⟩
    · refine ⟨_, exm2 R (by decide) (j1 := 3) (by decide) (j2 := 12) (by decide), fun _ a na hlen => ?_, fun z => absurd z (by decide)⟩
      match σ', hlen with
      | [x0, x1], _ =>
        refine ⟨rfl, 2, dd, _, by decide, rfl, rfl, hdd, fun H2 s2 => ?_⟩
        obtain ⟨_, J⟩ := R.i3
        refine ⟨_, ErrTxt.xf R.e3, J.noN, _, rfl, rfl, rfl, dd, _, v, rfl, s2 _ _ hdd, rfl, ⟨v, u, b, n, rfl, hv.same s2, hfit, Nat.le_trans hn (by decide), (by show 2 ≤ sizeLine; decide), fun l nl => hq _ l (L2.Same.trans s2 (same_upd nl)) (free_of s2 nl) upd_same⟩⟩
end
end Cb
end

section
set_option maxRecDepth 100000
set_option maxHeartbeats 4000000

namespace Cb
open PySem PySem.Spec PyProof.Rows L2
open LamX
/-- what the law's lambdas want: the code objects of their makers, at cR and cL, with tables at PR and PL -/
structure Lam (K : PySem.W.Frag) (mg : Str → Option Value) (base : Heap) (cR PR cL PL : Addr) : Prop where
  tR : StandsT K mg "_law_right" s_law_right cR
  tL : StandsT K mg "law" s_law cL
  bR : TabB base mg cR PR
  bL : TabB base mg cL PL
  ne : PR ≠ PL
def qLam (x : Str) : Str := x ++ (".<locals>." : Str) ++ ("<lambda>" : Str)
def Ts (PR PL : Addr) : List (Addr × Str) := [(PR, qLam "_law_right"), (PL, qLam "law")]
theorem Ts_R {PR PL : Addr} : (PR, qLam "_law_right") ∈ Ts PR PL := List.mem_cons_self
theorem Ts_L {PR PL : Addr} : (PL, qLam "law") ∈ Ts PR PL := List.mem_cons_of_mem _ List.mem_cons_self
theorem Ts_uR {PR PL : Addr} (ne : PR ≠ PL) : ∀ p ∈ Ts PR PL, p.1 = PR → p.2 = qLam "_law_right" := fun p hp e => by
  rcases List.mem_cons.mp hp with z | z
  · rw [z]
  · rw [List.mem_singleton.mp z] at e
    exact absurd e.symm ne
theorem Ts_uL {PR PL : Addr} (ne : PR ≠ PL) : ∀ p ∈ Ts PR PL, p.1 = PL → p.2 = qLam "law" := fun p hp e => by
  rcases List.mem_cons.mp hp with z | z
  · rw [z] at e
    exact absurd e ne
  · rw [List.mem_singleton.mp z]
theorem caught_ends {Ad : Nat → Addr} {H1 : Hp} {Q : VK} {o : Outc} (hb : ∀ k d, o = .err k d → k < 3 ∧ ∃ b n, Fit b n 100 d ∧ n ≤ 200000) (hQ : ∀ H' l, L2.Same H1 H' → H1 l = none → H' l = some (.lst (dueOf o)) → Q (.ref l) H') :
    Ends3 Ad H1 (fun _ H' => [V.str "none", V.str ""].length ≤ sizeLine ∧ ∀ l, H' l = none → Q (.ref l) (upd H' l (.lst [.str "none", .str ""]))) (EchG Ad Q) o := by
  cases o with
  | ret => exact fun H' r s => ⟨by show 2 ≤ sizeLine; decide, fun l nl => hQ _ l (L2.Same.trans s (same_upd nl)) (free_of s nl) upd_same⟩
  | err k d =>
    obtain ⟨hk, b, n, hf, hn⟩ := hb k d rfl
    exact fun H' dd v s hd hv => ⟨k, dd, v, d, b, n, hk, rfl, rfl, hd, hv, hf, hn, fun H2 l s2 nl e => hQ H2 l (L2.Same.trans s s2) (free_of s nl) e⟩
theorem caught_ends' {Ad : Nat → Addr} {H1 : Hp} {Q Qc : VK} {Ec : XK} {o : Outc} (hE : Ec = EchG Ad Q) (hQc : Qc = fun _ H' => [V.str "none", V.str ""].length ≤ sizeLine ∧ ∀ l, H' l = none → Q (.ref l) (upd H' l (.lst [.str "none", .str ""]))) (hb : ∀ k d, o = .err k d → k < 3 ∧ ∃ b n, Fit b n 100 d ∧ n ≤ 200000) (hQ : ∀ H' l, L2.Same H1 H' → H1 l = none → H' l = some (.lst (dueOf o)) → Q (.ref l) H') : Ends3 Ad H1 Qc Ec o := by
  subst hE hQc
  exact caught_ends hb hQ
theorem firstBad_lt {gs : List PyData} {i0 i : Nat} (h : firstBad i0 gs = some i) : i < i0 + gs.length := by
  rcases firstBad_spec gs i0 with ⟨h1, _⟩ | ⟨j, h1, h2, _⟩
  · rw [h1] at h
    cases h
  · rw [h1] at h
    cases h
    omega
theorem out_fit {wd : PyData} {gs : List PyData} {b : Bool} (hf : Fit b 300 6 wd) (hl : gs.length ≤ 4) : ∀ k d, opOut wd gs = .err k d → k < 3 ∧ ∃ b n, Fit b n 100 d ∧ n ≤ 200000 := by
  intro k d e
  cases h1 : opN wd with
  | false =>
    rw [out_op h1] at e
    cases e
    exact ⟨by decide, b, 300, hf.mono (Nat.le_refl _) (by decide), by decide⟩
  | true =>
    by_cases h2 : gs.length = (if sgN wd = true then 1 else 2)
    · cases h3 : firstBad 0 gs with
      | none =>
        rw [out_ret h1 h2 h3] at e
        cases e
      | some i =>
        rw [out_bad h1 h2 h3] at e
        cases e
        have := firstBad_lt h3
        exact ⟨by decide, true, 42, Fit.int' (by omega), by decide⟩
    · rw [out_len h1 h2] at e
      cases e
      exact ⟨by decide, true, 4, Fit.non', by decide⟩
theorem fit_name (o : Op) : Fit true 300 6 (.str o.name) := (Fit.str (n := 20) (m := 6) (name_short o)).mono (by decide) (Nat.le_refl _)
theorem res_dat (o : Op) {a b : Int} (ha : Wd a) (hb : Wd b) : ∃ dr, (∀ H, DA H (res o a b) dr) ∧ Fit true 300 100 dr := by
  have h := res_small o ha hb
  generalize res o a b = r at h
  cases r with
  | non => exact ⟨_, fun _ => .non, Fit.non'.mono (by decide) (Nat.le_refl _)⟩
  | bl x => exact ⟨_, fun _ => .bl x, Fit.bl'.mono (by decide) (Nat.le_refl _)⟩
  | int i => exact ⟨_, fun _ => .int i, Fit.intW (of_decide_eq_true h) (by decide)⟩
  | _ => cases h
def dueD : Outc → PyData
  | .ret => .list [.str "none", .str ""]
  | .err k d => .list [.int (k : Int), .str d.shown]
theorem dp_due {K : PySem.W.Frag} {H : Hp} {a : Addr} {o : Outc} (h : H a = some (.lst (dueOf o))) : Dp K H (.ref a) (dueD o) := by
  cases o with
  | ret => exact .lst (.inl (.inl h)) (.cons (.str _) (.cons (.str _) .nil))
  | err k d => exact .lst (.inl (.inl h)) (.cons (.int _) (.cons (.str _) .nil))
theorem due_refl (o : Outc) : PyData.eqv (dueD o) (dueD o) = true := by
  cases o with
  | ret => decide
  | err k d => simp [dueD, PyData.eqv, PyData.eqvAll]
theorem due_shaped {o : Outc} (hb : ∀ k d, o = .err k d → k < 3 ∧ ∃ b n, Fit b n 100 d ∧ n ≤ 200000) : SeqAt.shaped (dueD o) = true := by
  cases o with
  | ret => decide +kernel
  | err k d =>
    obtain ⟨hk, b, n, hf, hn⟩ := hb k d rfl
    have h1 := okd_shown d hf.ok
    show (PyData.canLay0 (.list [.int (k : Int), .str d.shown]) && decide (PyData.depth (.list [.int (k : Int), .str d.shown]) ≤ 64)) = true
    simp only [PyData.canLay0, PyData.canLayAll0, h1, Bool.and_true, Bool.true_and]
    rfl
theorem due_shaped2 {o : Outc} (hb : ∀ k d, o = .err k d → k < 3 ∧ ∃ b n, Fit b n 100 d ∧ n ≤ 200000) : SeqAt.shaped (.list [dueD o, dueD o]) = true := by
  cases o with
  | ret => decide +kernel
  | err k d =>
    obtain ⟨hk, b, n, hf, hn⟩ := hb k d rfl
    have h1 := okd_shown d hf.ok
    show (PyData.canLay0 (.list [.list [.int (k : Int), .str d.shown], .list [.int (k : Int), .str d.shown]]) && decide (PyData.depth (.list [.list [.int (k : Int), .str d.shown], .list [.int (k : Int), .str d.shown]]) ≤ 64)) = true
    simp only [PyData.canLay0, PyData.canLayAll0, h1, Bool.and_true, Bool.true_and]
    rfl
theorem due_ne {K : PySem.W.Frag} {H : Hp} {a b : Addr} {o : Outc} {Q : VK} (hs : SeqAt.shaped (dueD o) = true) (ha : H a = some (.lst (dueOf o))) (hb : H b = some (.lst (dueOf o))) (q : Q (.bl false) H) : rNeD K (.ref a) (.ref b) H Q :=
  ⟨_, _, dp_due ha, dp_due hb, hs, hs, by rw [due_refl]; exact q⟩
def spRightT (PR PL : Addr) : Sp := fun vs H Q _ => ∃ c : Addr, vs = [.ref c] ∧ PoolAt H c ∧ Tabs (Ts PR PL) H ∧ ∀ H', Keep c H H' → PoolAt H' c → Tabs (Ts PR PL) H' → Q (.bl true) H'
/-- a list of at most four data -/
def RowAt (H : Hp) (x : V) : Prop := ∃ (a : Addr) (ws : List V) (gs : List PyData), x = .ref a ∧ H a = some (.lst ws) ∧ ws.length ≤ 4 ∧ DAll H ws gs
theorem RowAt.ext {H H' : Hp} {x : V} (s : ExtN H H') (h : RowAt H x) : RowAt H' x := by
  obtain ⟨a, ws, gs, e, h1, h2, h3⟩ := h
  exact ⟨a, ws, gs, e, ext_lst s h1, h2, h3.ext' s⟩
theorem cutT (xs : List V) (k : Nat) : cutV xs none (some (k : Int)) = xs.take k := by
  unfold cutV
  rw [HT.sIx_nat, HT.sIx_none, List.drop_zero, Nat.sub_zero, List.take_eq_take_iff]
  omega
theorem DAll.app {H : Hp} : ∀ {a b : List V} {c d : List PyData}, DAll H a c → DAll H b d → DAll H (a ++ b) (c ++ d)
  | _, _, _, _, .nil, t => t
  | _, _, _, _, .cons h r, t => .cons h (DAll.app r t)
theorem dall_ints {H : Hp} : ∀ ns : List Int, DAll H (ns.map V.int) (ns.map PyData.int)
  | [] => .nil
  | n :: ns => .cons (.int n) (dall_ints ns)
theorem cut_ints (ns : List Int) (k : Nat) : cutV (ns.map V.int) none (some (k : Int)) = (ns.take k).map V.int := by rw [cutT, List.map_take]
theorem dall_cut {H : Hp} (ns : List Int) (k : Nat) : DAll H (cutV (ns.map V.int) none (some (k : Int))) ((ns.take k).map PyData.int) := by
  rw [cut_ints]
  exact dall_ints _
theorem cut_len (xs : List V) (k : Nat) : (cutV xs none (some (k : Int))).length ≤ k := by
  rw [cutT, List.length_take]
  omega
theorem rowA {H : Hp} {a : Addr} {ws : List V} {gs : List PyData} (h : H a = some (.lst ws)) (l : ws.length ≤ 4) (d : DAll H ws gs) : RowAt H (.ref a) := ⟨a, ws, gs, rfl, h, l, d⟩
theorem allR_nil {H : Hp} : ∀ y ∈ ([] : List V), RowAt H y := fun _ h => nomatch h
theorem allR_cons {H : Hp} {x : V} {xs : List V} (h : RowAt H x) (t : ∀ y ∈ xs, RowAt H y) : ∀ y ∈ x :: xs, RowAt H y := fun y hy => by
  rcases List.mem_cons.mp hy with z | z
  · rw [z]
    exact h
  · exact t y z
theorem first2 {ns : List Int} (hw : ∀ x ∈ ns, Wd x) : ∃ a b : Int, cutV (ns.map V.int ++ [.int 5, .int 7]) none (some 2) = [.int a, .int b] ∧ Wd a ∧ Wd b := by
  rw [show (2 : Int) = ((2 : Nat) : Int) from rfl, cutT]
  match ns, hw with
  | [], _ => exact ⟨5, 7, rfl, by decide, by decide⟩
  | [a], hw => exact ⟨a, 5, rfl, hw a (by simp), by decide⟩
  | a :: b :: r, hw => exact ⟨a, b, rfl, hw a (by simp), hw b (by simp)⟩
local macro_rules | `(tactic| walk_at "pl") => `(tactic| first
  | ((with_reducible apply PoolAt.ext); (with_reducible assumption); walk_at "pl")
  | with_reducible assumption
  | ((with_reducible apply PoolAt.new); (with_reducible assumption); walk_at "pl")
  | ((with_reducible apply PoolAt.same'); (with_reducible assumption); walk_at "pl"))
local macro_rules | `(tactic| walk_at "ex") => `(tactic| first
  | with_reducible assumption
  | with_reducible exact ExtN.refl _
  | ((with_reducible apply ex_new); (with_reducible assumption); walk_at "ex")
  | ((with_reducible apply ex_ext); (with_reducible assumption); walk_at "ex")
  | ((with_reducible apply ex_same); (with_reducible assumption); walk_at "ex"))
local macro_rules | `(tactic| walk_at "tb") => `(tactic| first
  | with_reducible assumption
  | ((with_reducible apply Tabs.new); (with_reducible assumption); walk_at "tb")
  | ((with_reducible apply Tabs.same); (with_reducible assumption); walk_at "tb")
  | ((with_reducible apply Tabs.but); walk_at "pl"; (with_reducible assumption); walk_at "tb"))
local macro_rules | `(tactic| walk_at "hp") => `(tactic| first
  | ((with_reducible apply ext_lst); (with_reducible assumption); walk_at "hp")
  | ((with_reducible apply ext_tup); (with_reducible assumption); walk_at "hp")
  | with_reducible assumption
  | with_reducible exact upd_same
  | ((with_reducible apply upd_new); (with_reducible assumption); walk_at "hp")
  | ((with_reducible apply hp_same); (with_reducible assumption); walk_at "hp")
  | ((with_reducible apply but_tup); (with_reducible assumption); walk_at "pl"; walk_at "hp")
  | ((with_reducible apply but_lst); (with_reducible assumption); walk_at "pl"; walk_at "hp"; first | exact rfl | assumption | exact npool_app (by omega)))
local macro_rules | `(tactic| walk_at "da") => `(tactic| first
  | ((with_reducible apply DA.ext'); (with_reducible assumption); walk_at "da")
  | with_reducible assumption
  | with_reducible exact DA.int _
  | with_reducible exact DA.str _
  | with_reducible exact DA.bl _
  | with_reducible exact DA.non
  | ((with_reducible apply DA.tup); (with_reducible exact upd_same); walk_at "dal")
  | ((with_reducible apply DA.lst); (with_reducible exact upd_same); exact rfl; exact rfl; walk_at "dal")
  | with_reducible exact DA.dct upd_same
  | ((with_reducible apply DA.new); (with_reducible assumption); walk_at "da")
  | ((with_reducible apply DA.same'); (with_reducible assumption); walk_at "da")
  | ((with_reducible apply DA.but'); (with_reducible assumption); walk_at "pl"; walk_at "da"))
local macro_rules | `(tactic| walk_at "dal") => `(tactic| first
  | with_reducible assumption
  | ((with_reducible apply DAll.ext'); (with_reducible assumption); walk_at "dal")
  | ((with_reducible apply DAll.same'); (with_reducible assumption); walk_at "dal")
  | ((with_reducible apply DAll.new); (with_reducible assumption); walk_at "dal")
  | exact DAll.nil
  | (apply DAll.cons; walk_at "da"; walk_at "dal"))
local macro_rules | `(tactic| walk_at "ft") => `(tactic| first
  | with_reducible assumption
  | apply Fit.non'
  | apply Fit.bl'
  | (apply Fit.str (n := 20); decide +kernel)
  | (apply Fit.int'; first | decide | omega)
  | (apply Fit.tup'; walk_at "fta")
  | (apply Fit.lst'; walk_at "fta"))
local macro_rules | `(tactic| walk_at "fta") => `(tactic| first
  | apply FitAll.nil'
  | (apply FitAll.cons'; walk_at "ft"; walk_at "fta"))
local macro_rules | `(tactic| walk_at "sm") => `(tactic| first
  | with_reducible assumption
  | with_reducible exact L2.Same.refl _
  | ((with_reducible apply sm_new); (with_reducible assumption); walk_at "sm")
  | ((with_reducible apply sm_same); (with_reducible assumption); walk_at "sm"))
local macro_rules | `(tactic| walk_at "sb") => `(tactic| first
  | with_reducible assumption
  | with_reducible exact SameBut.refl _ _
  | ((with_reducible apply sb_new); (with_reducible assumption); walk_at "sb")
  | ((with_reducible apply sb_but); (with_reducible assumption); walk_at "sb")
  | ((with_reducible apply sb_same); (with_reducible assumption); walk_at "sb"))
local macro_rules | `(tactic| walk_at "sq") => `(tactic| first
  | (refine Or.inl (Or.inl ?_); walk_at "hp")
  | (refine Or.inr (Or.inl (Or.inl ?_)); walk_at "hp")
  | (refine Or.inl (Or.inl (Or.inl ?_)); walk_at "hp")
  | exact (by assumption : ∀ H', SqT _ H' _ _) _
  | exact Or.inr ((by assumption : ∀ H', SqT _ H' _ _) _))
local macro_rules | `(tactic| walk_at "dt") => `(tactic| first
  | with_reducible assumption
  | apply (by assumption : ∀ b, Dat b _ _ _ _)
  | (with_reducible apply Dat.non)
  | (with_reducible apply Dat.bl)
  | ((with_reducible apply Dat.str); first | decide +kernel | exact name_short _)
  | ((with_reducible apply Dat.int); first | decide | omega)
  | ((with_reducible apply Dat.intW); decide)
  | ((with_reducible apply Dat.dc1); with_reducible exact upd_same)
  | ((with_reducible apply Dat.up'); (first | (with_reducible assumption) | apply (by assumption : ∀ b, Dat b _ _ _ _)); omega)
  | ((with_reducible apply Dat.tup); (with_reducible exact upd_same); walk_at "dtl")
  | ((with_reducible apply Dat.lst); (with_reducible exact upd_same); (first | exact rfl | assumption); (first | exact rfl | assumption); walk_at "dtl")
  | ((with_reducible apply Dat.dct); with_reducible exact upd_same)
  | ((with_reducible apply Dat.new); (with_reducible assumption); walk_at "dt")
  | ((with_reducible apply Dat.same'); (with_reducible assumption); walk_at "dt")
  | ((with_reducible apply Dat.but'); (with_reducible assumption); walk_at "pl"; walk_at "dt")
  | ((with_reducible apply Dat.ofE); (with_reducible assumption); omega)
  | ((with_reducible apply Dat.leaf); (with_reducible assumption); assumption; assumption; decide; omega))
local macro_rules | `(tactic| walk_at "dtl") => `(tactic| first
  | apply DatL.nil
  | ((with_reducible apply DatL.cons); walk_at "dt"; walk_at "dtl")
  | with_reducible assumption
  | apply (by assumption : ∀ b, DatL b _ _ _ _)
  | ((with_reducible apply DatL.up'); (first | (with_reducible assumption) | apply (by assumption : ∀ b, DatL b _ _ _ _)); omega)
  | ((with_reducible apply DatL.new); (with_reducible assumption); walk_at "dtl")
  | ((with_reducible apply DatL.same'); (with_reducible assumption); walk_at "dtl")
  | ((with_reducible apply DatL.but'); (with_reducible assumption); walk_at "pl"; walk_at "dtl"))
local macro_rules | `(tactic| walk_at "al") => `(tactic| first
  | exact AllD.nil
  | ((with_reducible apply AllD.cons); walk_at "dt"; omega; walk_at "al")
  | with_reducible assumption
  | ((with_reducible apply AllD.app); walk_at "al"; walk_at "al")
  | ((with_reducible apply AllD.new); (with_reducible assumption); walk_at "al")
  | ((with_reducible apply AllD.same'); (with_reducible assumption); walk_at "al")
  | ((with_reducible apply AllD.but'); (with_reducible assumption); walk_at "pl"; walk_at "al"))
local macro_rules | `(tactic| walk_at "pt") => `(tactic| first
  | with_reducible assumption
  | ((with_reducible apply PatAt.new); (with_reducible assumption); walk_at "pt")
  | ((with_reducible apply PatAt.same'); (with_reducible assumption); walk_at "pt")
  | ((with_reducible apply PatAt.but'); (with_reducible assumption); walk_at "pl"; walk_at "pt"))
local macro_rules | `(tactic| walk_at "db") => `(tactic| first
  | with_reducible assumption
  | ((with_reducible apply DatB.new); (with_reducible assumption); walk_at "db")
  | ((with_reducible apply DatB.same'); (with_reducible assumption); walk_at "db")
  | ((with_reducible apply DatB.but'); (with_reducible assumption); walk_at "pl"; walk_at "db"))
local macro_rules | `(tactic| walk_at "dn") => `(tactic| first
  | with_reducible assumption
  | (with_reducible apply Dno.non)
  | (with_reducible apply Dno.bl)
  | ((with_reducible apply Dno.str); decide +kernel; exact rfl)
  | ((with_reducible apply Dno.int); decide)
  | ((with_reducible apply Dno.tup); (with_reducible exact upd_same); walk_at "dtl")
  | ((with_reducible apply Dno.lst); (with_reducible exact upd_same); exact rfl; exact rfl; walk_at "dtl")
  | ((with_reducible apply Dno.dct); with_reducible exact upd_same)
  | ((with_reducible apply Dno.new); (with_reducible assumption); walk_at "dn")
  | ((with_reducible apply Dno.same'); (with_reducible assumption); walk_at "dn")
  | ((with_reducible apply Dno.but'); (with_reducible assumption); walk_at "pl"; walk_at "dn"))
local macro_rules | `(tactic| walk_at "an") => `(tactic| first
  | exact AllN.nil
  | ((with_reducible apply AllN.cons); walk_at "dn"; omega; walk_at "an")
  | with_reducible assumption
  | ((with_reducible apply AllN.app); walk_at "an"; walk_at "an")
  | ((with_reducible apply AllN.new); (with_reducible assumption); walk_at "an")
  | ((with_reducible apply AllN.same'); (with_reducible assumption); walk_at "an")
  | ((with_reducible apply AllN.but'); (with_reducible assumption); walk_at "pl"; walk_at "an"))
local macro_rules | `(tactic| walk_at "st") => `(tactic| first
  | (with_reducible show ExtN _ _); (walk_at "ex")
  | (with_reducible show Tabs _ _); (walk_at "tb")
  | (with_reducible show DAll _ _ _); (walk_at "dal")
  | (with_reducible show upd _ _ _ _ = some _); (walk_at "hp")
  | (with_reducible show L2.Same _ _); (walk_at "sm")
  | (with_reducible refine And.intro ?_ ?_)
  | exact rfl
  | with_reducible assumption
  | (with_reducible show DA _ _ _); (walk_at "da")
  | (with_reducible show PoolAt _ _); (walk_at "pl")
  | (with_reducible show Dat _ _ _ _ _); (walk_at "dt")
  | (with_reducible show Fit _ _ _ _); (walk_at "ft")
  | (with_reducible show PatAt _ _ _); (walk_at "pt")
  | (with_reducible show SameBut _ _ _); (walk_at "sb")
  | (with_reducible show _ ≤ sizeLine); (first | exact len_line _ rfl | exact len_line2 _ _ rfl rfl | decide | omega | exact Nat.le_trans (m := 200000) (by omega) (by decide) | exact Nat.le_trans (m := 200000) (by simp only [List.length_cons, List.length_nil]; omega) (by decide))
  | (with_reducible first | show (_ : Int) ≤ _ | show (_ : Int) < _ | show (_ : Nat) ≤ _ | show (_ : Nat) < _); (first | omega | (simp only [List.length_append]; omega) | (simp only [List.length_cons, List.length_nil]; omega) | (simp only [List.length_append, List.length_cons, List.length_nil]; omega) | exact Int.lt_of_lt_of_le (by assumption) (by decide))
  | exact cut1_not _ _
  | exact List.cons_ne_nil _ _
  | exact fun h => absurd h (List.cons_ne_nil _ _)
  | exact fun h => (h rfl).elim
  | (with_reducible show DatB _ _ _ _); (walk_at "db")
  | (with_reducible show AllD _ _ _ _); (walk_at "al")
  | exact Or.inl ⟨rfl, _, Or.inl (Or.inl (by walk_at "hp"))⟩
  | exact fun h => absurd h.1 (Nat.ne_of_beq_eq_false rfl)
  | exact fun h => absurd h.2 (Nat.ne_of_beq_eq_false rfl)
  | exact at0 _ _
  | exact at1 _ _ _
  | (refine And.intro ?_ ?_)
  | (fail_if_success first | show (∃ _ : Nat → Nat → L2.St → Hp → Prop, _) | show (∃ _ : Nat → Nat → Hp → Prop, _) | show (∃ _ : Nat → L2.St → Hp → Prop, _) | show (∃ (_ : PyData) (_ : PyData), _) | show (∃ (_ : Addr) (_ : List V) (_ : V) (_ : Nat) (_ : V), _)); (apply Exists.intro)
  | (refine iteT' rfl ?_)
  | (refine iteF' rfl ?_)
  | walk_at "sq"
  | (with_reducible show _ = some _); (walk_at "hp")
  | intro _
  | assumption)
local macro_rules | `(tactic| walk_at "rd") => `(tactic| repeat walk_at "st")
section
variable {P : Program} {w : World} {K : PySem.W.Frag} {mg : Str → Option Value} {base : Heap} {cR PR cL PL : Addr} {Ad : Nat → Addr}
theorem g_law_right (T : Txt K mg) (R : Ers K mg Ad) (L : Lam K mg base cR PR cL PL) (gk : GivesX P w K mg base 1 "_law_kind" (spKind Ad)) (g_law_draw : Gives P w K mg base CX0 1 "_law_draw" spDraw) (g_law_figure : Gives P w K mg base CX0 2 "_law_figure" spFigure) (g_law_way : Gives P w K mg base CX0 2 "_law_way" spWay) (g_law_odd : Gives P w K mg base CX0 2 "_law_odd" spOdd) (g_law_no_way : Gives P w K mg base CX0 2 "_law_no_way" spNoWay) (g_law_due : GivesG P w K mg base CX0 3 "_law_due" spDue) (g_operate : Gives P w K mg base CX0 4 "operate" spOperate) (g_wrap : Gives P w K mg base CX0 2 "wrap" spWrap) (g_law_do : Gives P w K mg base CX0 2 "_law_do" spDo) (g_law_fit : Gives P w K mg base CX0 1 "_law_fit" spFit) (ge_law_asked : Gives P w K mg base (L2.CX P w) 5 "_law_asked" (spAsked Ad)) (ge_wrap : Gives P w K mg base (L2.CX P w) 3 "wrap" (spWrapE Ad)) (gek_wrap : GivesK P w K mg base (L2.CX P w) 3 "wrap" ["number"] (spWrapE Ad)) : GivesG P w K mg base CX0 11 "_law_right" (spRightT PR PL) := by
  refine givesT_fun L.tR sc_law_right (fun _ _ _ _ _ _ us hl => match us, hl with | [_], _ => rfl) (fun vs H Q E h => ?_) (fun f A outer s H vs Q E hgd hr h => ?_)
  · obtain ⟨c, rfl, _⟩ := h
    rfl
  · obtain ⟨c, rfl, hP, hT, q⟩ := h
    refine ⟨_, (pss_cons (ps_for PassesOwn.never rfl (pi_range1 (by rfl) T.n_range (pa_cons pe_int pa_nil)) (pg_name (i := 1) sc_law_right.nd rfl (Or.inl rfl)) (pss_cons (ps_asg (pe_tup (pa_cons (pe_own g_law_way (hr.mono (by decide)) (by rfl) pass0 (pa_cons (pv 0) pa_nil)) (pa_cons (pe_own g_law_odd (hr.mono (by decide)) (by rfl) pass0 (pa_cons (pv 0) pa_nil)) pa_nil))) (pg_tup (by rfl) (pgs_cons (pg_name (i := 2) sc_law_right.nd rfl (Or.inr rfl)) (pgs_cons (pg_name (i := 3) sc_law_right.nd rfl (Or.inr rfl)) pgs_nil))))
      (pss_cons (ps_set (i := 4) sc_law_right.nd rfl (Or.inr rfl) (pe_own g_law_no_way (hr.mono (by decide)) (by rfl) pass0 (pa_cons (pv 0) pa_nil)))
      (pss_cons (ps_setLc (i := 5) (own := [("_law_k", 6)]) rfl sc_law_right.nd rfl rfl (sw_true rfl rfl rfl (by decide +kernel)) (pi_range1 (by rfl) T.n_range (pa_cons (pe_own g_law_draw (hr.mono (by decide)) (by rfl) pass0 (pa_cons (pv 0) (pa_cons pe_int pa_nil))) pa_nil)) (blkOk_by (N := ["_law_pool_here", "_law_turn", "_law_way_here", "_law_odd_here", "_law_no_way_here", "_law_given", "_law_k", "_law_some", "_law_row", "_law_a", "_law_b", "_law_told"]) (sc := defScope s_law_right) (by decide +kernel)) (fun _ _ _ _ _ => (pg_name (i := 6) sc_law_right.nd rfl (Or.inl rfl))) (fun _ _ _ _ _ => pts_nil) (fun _ _ _ _ _ => (pe_own g_law_figure (hr.mono (by decide)) (by rfl) pass0 (pa_cons (pv 0) pa_nil))))
      (pss_cons (ps_set (i := 7) sc_law_right.nd rfl (Or.inl rfl) (pe_lst (pa_cons (pv 5) (pa_cons (pe_slice sl_list (pv 5) po_none (po_some pe_int)) (pa_cons (pe_slice sl_list (pv 5) po_none (po_some pe_int)) (pa_cons (pe_op op_cat (pe_lst (pa_cons (pv 3) pa_nil)) (pe_slice sl_list (pv 5) po_none (po_some pe_int))) (pa_cons (pe_op op_cat (pe_slice sl_list (pv 5) po_none (po_some pe_int)) (pe_lst (pa_cons (pv 3) pa_nil))) (pa_cons (pe_lst (pa_cons (pv 3) (pa_cons (pv 3) pa_nil))) (pa_cons (pe_op op_cat (pe_lst (pa_cons (pv 3) pa_nil)) (pe_slice sl_list (pv 5) po_none (po_some pe_int))) pa_nil)))))))))
      (pss_cons (ps_for PassesOwn.never rfl (pi_list (pv 7)) (pg_name (i := 8) sc_law_right.nd rfl (Or.inr rfl)) (pss_cons (ps_if (pt_cmpR (op_neD (units64 hr)) (pe_lamOf (T := Ts PR PL) (k := 8) (by rfl) T.d_law_caught sc_law_caught (fun _ _ _ _ _ _ us hl => match us, hl with | [_], _ => rfl) rfl (by exact .inl (by decide +kernel)) (fun g cdg => caught_gives T R gk hgd (hr.mono (by decide))) L.bR rfl Ts_R (Ts_uR L.ne) (hr.mono (by decide)) (lamS_by (sc := defScope s_law_right) (by decide +kernel)) rfl (fun _ _ _ _ _ => rfl) (fun A2 outer2 s2 H2 E2 f2 c2 hr => (pe_own ge_law_asked (hr.mono (by decide)) (by rfl) (passX rfl rfl rfl rfl) (pa_cons (pv 2) (pa_cons (pv 8) pa_nil))))) (pe_ownG g_law_due hgd (hr.mono (by decide)) (by rfl) pass0 (pa_cons (pv 2) (pa_cons (pv 8) pa_nil))) (nomark _)) (pss_one (ps_ret pe_bl)) pss_nil)
      (pss_one (ps_if (pt_cmpR (op_neD (units64 hr)) (pe_lamOf (T := Ts PR PL) (k := 8) (by rfl) T.d_law_caught sc_law_caught (fun _ _ _ _ _ _ us hl => match us, hl with | [_], _ => rfl) rfl (by exact .inl (by decide +kernel)) (fun g cdg => caught_gives T R gk hgd (hr.mono (by decide))) L.bR rfl Ts_R (Ts_uR L.ne) (hr.mono (by decide)) (lamS_by (sc := defScope s_law_right) (by decide +kernel)) rfl (fun _ _ _ _ _ => rfl) (fun A2 outer2 s2 H2 E2 f2 c2 hr => (pe_own ge_law_asked (hr.mono (by decide)) (by rfl) (passX rfl rfl rfl rfl) (pa_cons (pv 4) (pa_cons (pv 8) pa_nil))))) (pe_lst (pa_cons pe_int (pa_cons (pe_callB (call_reprD (m := 100) hgd (unitsN hr)) (by rfl) T.n_repr (by decide +kernel) (pa_cons (pv 4) pa_nil)) pa_nil))) (nomark _)) (pss_one (ps_ret pe_bl)) pss_nil))))
      (pss_cons (ps_asg (pe_slice sl_list (pe_op op_cat (pv 5) (pe_lst (pa_cons pe_int (pa_cons pe_int pa_nil)))) po_none (po_some pe_int)) (pg_unl rfl (pgs_cons (pg_name (i := 9) sc_law_right.nd rfl (Or.inl rfl)) (pgs_cons (pg_name (i := 10) sc_law_right.nd rfl (Or.inl rfl)) pgs_nil))))
      (pss_cons (ps_if (PW.pt (pw_and (pt_notinC (i := 2) rfl (by first | exact Or.inl rfl | exact Or.inr (Or.inl rfl) | exact Or.inr (Or.inr rfl)) (pc_cons (pc_cons pc_nil))) (pw_and1 (pt_cmpR op_ne (pe_callB (call_reprD (m := 100) hgd (unitsN hr)) (by rfl) T.n_repr (by decide +kernel) (pa_cons (pe_own g_operate (hr.mono (by decide)) (by rfl) pass0 (pa_cons (pv 2) (pa_cons (pv 9) (pa_cons (pv 10) pa_nil)))) pa_nil)) (pe_callB (call_reprD (m := 100) hgd (unitsN hr)) (by rfl) T.n_repr (by decide +kernel) (pa_cons (pe_own g_law_do (hr.mono (by decide)) (by rfl) pass0 (pa_cons (pv 2) (pa_cons (pv 9) (pa_cons (pv 10) pa_nil)))) pa_nil)) (nomark _))))) (pss_one (ps_ret pe_bl)) pss_nil)
      (pss_one (ps_if (PW.pt (pw_or (pt_not (pt_val (pe_callB (call_isiD kb_int) (by rfl) T.n_isinstance (by decide +kernel) (pa_cons (pv 3) (pa_cons (pe_bltn (v := .ty "int") (by rfl) T.n_int (by decide +kernel) rfl) pa_nil))))) (pw_or1 (pt_val (pe_callB (call_isiD kb_bool) (by rfl) T.n_isinstance (by decide +kernel) (pa_cons (pv 3) (pa_cons (pe_bltn (v := .ty "bool") (by rfl) T.n_bool (by decide +kernel) rfl) pa_nil))))))) (pss_cons (ps_set (i := 11) sc_law_right.nd rfl (Or.inl rfl) (pe_lst (pa_cons (pe_lamOf (T := Ts PR PL) (k := 8) (by rfl) T.d_law_caught sc_law_caught (fun _ _ _ _ _ _ us hl => match us, hl with | [_], _ => rfl) rfl (by exact .inl (by decide +kernel)) (fun g cdg => caught_gives T R gk hgd (hr.mono (by decide))) L.bR rfl Ts_R (Ts_uR L.ne) (hr.mono (by decide)) (lamS_by (sc := defScope s_law_right) (by decide +kernel)) rfl (fun _ _ _ _ _ => rfl) (fun A2 outer2 s2 H2 E2 f2 c2 hr => (pe_own ge_wrap (hr.mono (by decide)) (by rfl) (passX rfl rfl rfl rfl) (pa_cons (pv 3) pa_nil)))) pa_nil)))
      (pss_cons (ps_expr (pe_bm PySem.F.plainAttrs_list PySem.F.slot_list_append PySem.F.type_list_append mt_append (pv 11) (pa_cons (pe_lamOf (T := Ts PR PL) (k := 8) (by rfl) T.d_law_caught sc_law_caught (fun _ _ _ _ _ _ us hl => match us, hl with | [_], _ => rfl) rfl (by exact .inl (by decide +kernel)) (fun g cdg => caught_gives T R gk hgd (hr.mono (by decide))) L.bR rfl Ts_R (Ts_uR L.ne) (hr.mono (by decide)) (lamS_by (sc := defScope s_law_right) (by decide +kernel)) rfl (fun _ _ _ _ _ => rfl) (fun A2 outer2 s2 H2 E2 f2 c2 hr => (pe_ownK0 gek_wrap (hr.mono (by decide)) (by rfl) (passX rfl rfl rfl rfl) (pk_cons (pv 3) pk_nil)))) pa_nil)))
      (pss_one (ps_if (pt_cmpR (op_neD (units64 hr)) (pv 11) (pe_op op_rep (pe_lst (pa_cons (pe_lst (pa_cons pe_int (pa_cons (pe_callB (call_reprD (m := 100) hgd (unitsN hr)) (by rfl) T.n_repr (by decide +kernel) (pa_cons (pv 3) pa_nil)) pa_nil))) pa_nil)) pe_int) (nomark _)) (pss_one (ps_ret pe_bl)) pss_nil)))) (pss_one (ps_if (pt_cmpR op_ne (pe_own g_wrap (hr.mono (by decide)) (by rfl) pass0 (pa_cons (pv 3) pa_nil)) (pe_own g_law_fit (hr.mono (by decide)) (by rfl) pass0 (pa_cons (pv 3) pa_nil)) (nomark _)) (pss_one (ps_ret pe_bl)) pss_nil))))))))))))
      (pss_one (ps_ret pe_bl))), ?_⟩
    walk_at "rd"
    refine for_range (lo := 0) (n := 40) (fun i σ H' => ∃ y1 y2 y3 y4 y5 y6 y7 y8 y9 y10 y11, σ = [some (.ref c), y1, y2, y3, y4, y5, y6, y7, y8, y9, y10, y11] ∧ Keep c H H' ∧ PoolAt H' c ∧ Tabs (Ts PR PL) H') ⟨none, none, none, none, none, none, none, none, none, none, none, rfl, Keep.refl _ _, hP, hT⟩ (fun i σ G hi hI => ?_) (fun σ G hI => ?_)
    · obtain ⟨y1, y2, y3, y4, y5, y6, y7, y8, y9, y10, y11, rfl, kG, pG, tG⟩ := hI
      refine nx_hide fun U hU => ?_
      dsimp only
      refine seq_then (fun σ' H' => ∃ (o : Op) (r : V) (b : Bool), σ' = [some (.ref c), some (.int (0 + i)), some (.str o.name), some r, y4, y5, y6, y7, y8, y9, y10, y11] ∧ SameBut c G H' ∧ PoolAt H' c ∧ Dat b 300 6 H' r) ?_ (fun U hU => ?_)
      rotate_left
      · walk_at "rd"
        exact hU _ _ ⟨_, _, _, rfl, by walk_at "sb", by walk_at "pl", by walk_at "dt"⟩
      rintro σ' G1 ⟨o, r, b, rfl, s1, P1, d, hd1, hf1⟩
      refine seq_then (fun σ' H' => ∃ (r2 : V) (b2 : Bool), σ' = [some (.ref c), some (.int (0 + i)), some (.str o.name), some r, some r2, y5, y6, y7, y8, y9, y10, y11] ∧ SameBut c G H' ∧ PoolAt H' c ∧ DA H' r d ∧ Dno b2 300 6 H' r2) ?_ (fun U hU => ?_)
      rotate_left
      · walk_at "rd"
        exact hU _ _ ⟨_, _, rfl, by walk_at "sb", by walk_at "pl", by walk_at "da", by walk_at "dn"⟩
      rintro σ' G2 ⟨r2, b2, rfl, s2, P2, hd2, d2, he2, hf2, hn2⟩
      clear hd1 P1 s1 G1
      refine seq_then (fun σ' H' => ∃ (D : Addr) (ns : List Int) (z6 : Option V), σ' = [some (.ref c), some (.int (0 + i)), some (.str o.name), some r, some r2, some (.ref D), z6, y7, y8, y9, y10, y11] ∧ SameBut c G H' ∧ PoolAt H' c ∧ DA H' r d ∧ DA H' r2 d2 ∧ D ≠ c ∧ H' D = some (.lst (ns.map V.int)) ∧ ns.length ≤ 4 ∧ ∀ x ∈ ns, Wd x) ?_ (fun U hU => ?_)
      rotate_left
      · walk_at "rd"
        rename_i G3 z s3 P3 z0 z1 D nD
        have neD : c ≠ D := P3.ne nD
        refine lc_range (fun j H' => SameBut c G3 H' ∧ PoolAt H' c ∧ ∃ ns : List Int, (∀ x ∈ ns, Wd x) ∧ ns.length = j ∧ H' D = some (.lst (ns.map V.int))) ⟨.of (same_upd nD), P3.same (same_upd nD), [], by simp, rfl, upd_same⟩ (fun j H' hj hI => ?_) (fun G4 hI => ?_)
        · obtain ⟨u, Pu, ns, hns, hl, hD⟩ := hI
          refine ⟨rfl, _, rfl, c, rfl, Pu, fun K1 x t2 Pt wx => ⟨_, t2.at hD neD.symm, by rw [List.length_map, hl]; exact small1000 (by omega), fun b o nb hb => ?_, Pt.updne neD, ns ++ [x], ?_, by rw [List.length_append, hl]; rfl, by rw [upd_same, List.map_append]; rfl⟩⟩
          · rw [upd_ne (ne_of_none hb nD)]
            exact t2.at (u.at hb nb) nb
          · intro y hy
            rcases List.mem_append.mp hy with e | e
            · exact hns y e
            · rw [List.mem_singleton.mp e]
              exact wx
        · obtain ⟨u, Pu, ns, hns, hl, hD⟩ := hI
          have s4 : SameBut c G2 G4 := s3.trans u
          exact hU _ _ ⟨D, ns, _, rfl, s2.trans s4, Pu, hd2.but P2 s4, he2.but P2 s4, neD.symm, hD, by omega, hns⟩
      rintro σ' G3 ⟨D, ns, z6, rfl, s3, P3, hd3, he3, neD, hD3, hn4, hwd⟩
      clear he2 hd2 P2 s2 G2
      refine seq_then (fun σ' H' => ∃ (l : Addr) (rows : List V), σ' = [some (.ref c), some (.int (0 + i)), some (.str o.name), some r, some r2, some (.ref D), z6, some (.ref l), y8, y9, y10, y11] ∧ ExtN G3 H' ∧ Tabs (Ts PR PL) H' ∧ H' l = some (.lst rows) ∧ ∀ x ∈ rows, RowAt H' x) ?_ (fun U hU => ?_)
      rotate_left
      · have t3 : Tabs (Ts PR PL) G3 := Tabs.but pG s3 tG
        have c1 : (cutV (ns.map V.int) none (some 1)).length ≤ 1 := cut_len _ 1
        have c3 : (cutV (ns.map V.int) none (some 3)).length ≤ 3 := cut_len _ 3
        walk_at "rd"
        refine hU _ _ ⟨_, _, rfl, by walk_at "ex", by walk_at "tb", upd_same, ?_⟩
        refine allR_cons ?_ (allR_cons ?_ (allR_cons ?_ (allR_cons ?_ (allR_cons ?_ (allR_cons ?_ (allR_cons ?_ allR_nil))))))
        · apply rowA
          walk_at "hp"
          rw [List.length_map]; exact hn4
          exact dall_ints ns
        · apply rowA
          walk_at "hp"
          exact Nat.le_trans (cut_len _ 2) (by decide)
          exact dall_cut ns 2
        · apply rowA
          walk_at "hp"
          exact Nat.le_trans (cut_len _ 1) (by decide)
          exact dall_cut ns 1
        · apply rowA
          walk_at "hp"
          exact Nat.le_trans (Nat.succ_le_succ (cut_len _ 1)) (by decide)
          exact .cons (by walk_at "da") (dall_cut ns 1)
        · apply rowA
          walk_at "hp"
          rw [List.length_append]; exact Nat.le_trans (Nat.add_le_add_right (cut_len _ 1) 1) (by decide)
          exact .app (dall_cut ns 1) (.cons (by walk_at "da") .nil)
        · apply rowA
          walk_at "hp"
          show 2 ≤ 4; decide
          exact .cons (by walk_at "da") (.cons (by walk_at "da") .nil)
        · apply rowA
          walk_at "hp"
          exact Nat.succ_le_succ (cut_len _ 3)
          exact .cons (by walk_at "da") (dall_cut ns 3)
      rintro σ' G4 ⟨l, rows, rfl, s4, t4, hl4, hrw⟩
      refine seq_then (fun σ' H' => ∃ (z8 : Option V), σ' = [some (.ref c), some (.int (0 + i)), some (.str o.name), some r, some r2, some (.ref D), z6, some (.ref l), z8, y9, y10, y11] ∧ ExtN G4 H' ∧ Tabs (Ts PR PL) H') ?_ (fun U hU => ?_)
      rotate_left
      · walk_at "rd"
        · exact ⟨_, .inl (.inl hl4)⟩
        refine for_list (xs := rows) (fun _ σ H' => ∃ (z8 : Option V), σ = [some (.ref c), some (.int (0 + i)), some (.str o.name), some r, some r2, some (.ref D), z6, some (.ref l), z8, y9, y10, y11] ∧ ExtN G4 H' ∧ Tabs (Ts PR PL) H') ⟨_, rfl, ExtN.refl _, t4⟩ (fun _ σ H' _ ⟨_, _, e, _⟩ => .inl (.inl (ext_lst e hl4))) (fun j x σ H' hx hI => ?_) (fun σ H' hI => ?_)
        rotate_left
        · exact hU _ _ hI
        obtain ⟨z8, rfl, s5, t5⟩ := hI
        obtain ⟨a, ws, gs, rfl, ha, hlen, hds⟩ := (hrw x (List.mem_of_getElem? hx)).ext s5
        have hf2' : Fit b2 300 100 d2 := hf2.mono (Nat.le_refl _) (by decide)
        have he5 : DA H' r2 d2 := (he3.ext' s4).ext' s5
        have gl : gs.length ≤ 4 := by rw [← hds.length]; exact hlen
        change tSeq _ _ _ _ _
        refine nx_hide fun U hU => ?_
        dsimp only
        refine seq_then (fun σ' H1 => σ' = [some (.ref c), some (.int (0 + i)), some (.str o.name), some r, some r2, some (.ref D), z6, some (.ref l), some (.ref a), y9, y10, y11] ∧ ExtN H' H1 ∧ Tabs (Ts PR PL) H1) ?_ (fun U hU => ?_)
        rotate_left
        · have hof := out_fit (gs := gs) (fit_name o) gl
          walk_at "rd"
          refine caught_ends' rfl rfl hof (fun H2 l2 sA nA eA => ?_)
          walk_at "rd"
          refine due_ne (due_shaped hof) (by walk_at "hp") (by walk_at "hp") ?_
          walk_at "rd"
          exact hU _ _ ⟨rfl, by walk_at "ex", by walk_at "tb"⟩
        rintro σ' H6 ⟨rfl, s6, t6⟩
        have hof2 := out_fit (gs := gs) hf2 gl
        rw [out_op hn2] at hof2
        walk_at "rd"
        rw [out_op hn2]
        refine caught_ends' rfl rfl hof2 (fun H2 l2 sA nA eA => ?_)
        walk_at "rd"
        refine due_ne (o := .err 1 d2) (due_shaped hof2) (by walk_at "hp") upd_same ?_
        walk_at "rd"
        exact hU _ _ ⟨_, rfl, by walk_at "ex", by walk_at "tb"⟩
      rintro σ' G5 ⟨z8, rfl, s5, t5⟩
      obtain ⟨a, b', eab, wa, wb⟩ := first2 hwd
      refine seq_then (fun σ' H' => σ' = [some (.ref c), some (.int (0 + i)), some (.str o.name), some r, some r2, some (.ref D), z6, some (.ref l), z8, some (.int a), some (.int b'), y11] ∧ ExtN G5 H' ∧ Tabs (Ts PR PL) H') ?_ (fun U hU => ?_)
      rotate_left
      · have hD5 : G5 D = some (.lst (ns.map V.int)) := ext_lst s5 (ext_lst s4 hD3)
        have hml : (ns.map V.int).length ≤ 4 := by rw [List.length_map]; exact hn4
        walk_at "rd"
        · rw [eab]
          rfl
        rw [eab]
        walk_at "rd"
        exact hU _ _ ⟨rfl, by walk_at "ex", by walk_at "tb"⟩
      rintro σ' G6 ⟨rfl, s6, t6⟩
      refine seq_then (fun σ' H' => σ' = [some (.ref c), some (.int (0 + i)), some (.str o.name), some r, some r2, some (.ref D), z6, some (.ref l), z8, some (.int a), some (.int b'), y11] ∧ ExtN G6 H' ∧ Tabs (Ts PR PL) H') ?_ (fun U hU => ?_)
      rotate_left
      · walk_at "rd"
        refine ite2 (fun c1 => ?_) (fun c1 => ?_)
        · have hs : o.single = false := by
            rw [← sgN_name]
            exact nots c1
          obtain ⟨dr, hdr, hfr⟩ := res_dat o wa wb
          walk_at "rd"
          refine .inl ⟨o, a, b', rfl, hs, wa, wb, fun H8 s8 => ?_⟩
          refine ⟨_, dr, true, 300, rfl, hdr _, hfr, by decide, ?_⟩
          walk_at "rd"
          · exact hdr _
          walk_at "rd"
          refine iteF' (by simp) ?_
          exact hU _ _ ⟨rfl, by walk_at "ex", by walk_at "tb"⟩
        · exact hU _ _ ⟨rfl, by walk_at "ex", by walk_at "tb"⟩
      rintro σ' G7 ⟨rfl, s7, t7⟩
      have e7 : ExtN G3 G7 := (((s4.trans s5).trans s6).trans s7)
      have hd7 : DA G7 r d := hd3.ext' e7
      have fin : ∀ G8, ExtN G7 G8 → Tabs (Ts PR PL) G8 → ∀ z11, U [some (.ref c), some (.int (0 + i)), some (.str o.name), some r, some r2, some (.ref D), z6, some (.ref l), z8, some (.int a), some (.int b'), z11] G8 := fun G8 s8 t8 z11 => hU _ _ ⟨_, _, _, _, _, _, _, _, _, _, _, rfl, kp_ext (e7.trans s8) (kG.trans (.of s3)), P3.ext (e7.trans s8), t8⟩
      cases hI : isIntD d with
      | true =>
        obtain ⟨w', rfl⟩ : ∃ w', d = .int w' := by
          cases d with
          | int w' => exact ⟨w', rfl⟩
          | _ => cases hI
        cases hd7
        walk_at "rd"
        refine iteF' (by simp) ?_
        exact fin _ (by walk_at "ex") (by walk_at "tb") _
      | false =>
        have hof : ∀ k d', Outc.err 0 d = .err k d' → k < 3 ∧ ∃ b n, Fit b n 100 d' ∧ n ≤ 200000 := fun k d' e => by
          cases e
          exact ⟨by decide, b, 300, hf1.mono (Nat.le_refl _) (by decide), by decide⟩
        have hf1' : Fit b 300 100 d := hf1.mono (Nat.le_refl _) (by decide)
        have hno : ∀ Hx Qx Ex, Ends3 Ad Hx Qx Ex (.err 0 d) → Ends3 Ad Hx Qx Ex (if isIntD d = true then .ret else .err 0 d) := fun Hx Qx Ex h => by
          rw [hI]
          exact h
        have tst : ∀ (Qt : Bool → Hp → Prop), Qt true G7 → tOr (tNot (tB (tCB (rIsiD isInt "int") (tCons (tVar 3) (tCons (tC (.ty "int")) tNil))))) (tB (tCB (rIsiD isBool "bool") (tCons (tVar 3) (tCons (tC (.ty "bool")) tNil)))) [some (.ref c), some (.int (0 + i)), some (.str o.name), some r, some r2, some (.ref D), z6, some (.ref l), z8, some (.int a), some (.int b'), y11] G7 Qt := by
          intro Qt hq
          clear hU fin hno hof
          cases d with
          | int w' => cases hI
          | _ => walk_at "rd"
        refine tst _ ?_
        refine iteT' rfl ?_
        refine seq_then (fun σ' H' => ∃ (tl l1 : Addr) (H1 : Hp), σ' = [some (.ref c), some (.int (0 + i)), some (.str o.name), some r, some r2, some (.ref D), z6, some (.ref l), z8, some (.int a), some (.int b'), some (.ref tl)] ∧ ExtN G7 H' ∧ Tabs (Ts PR PL) H' ∧ H' tl = some (.lst [.ref l1]) ∧ H' l1 = some (.lst (dueOf (.err 0 d))) ∧ ExtN G7 H1 ∧ H1 tl = none) ?_ (fun U hU => ?_)
        rotate_left
        · walk_at "rd"
          refine hno _ _ _ ?_
          refine caught_ends' rfl rfl hof (fun H2 l2 sA nA eA => ?_)
          walk_at "rd"
          exact hU _ _ ⟨_, _, _, rfl, by walk_at "ex", by walk_at "tb", upd_same, by walk_at "hp", (by walk_at "ex" : ExtN G7 H2), by assumption⟩
        rintro σ' G8 ⟨tl, l1, H1, rfl, s8, t8, ht8, hl8, sN, nN⟩
        have hd8 : DA G8 r d := hd7.ext' s8
        have n1 : l1 ≠ tl := fun z => by
          rw [z, ht8] at hl8
          cases hl8
        refine seq_then (fun σ' H' => ∃ (l2 : Addr), σ' = [some (.ref c), some (.int (0 + i)), some (.str o.name), some r, some r2, some (.ref D), z6, some (.ref l), z8, some (.int a), some (.int b'), some (.ref tl)] ∧ ExtN G7 H' ∧ Tabs (Ts PR PL) H' ∧ H' tl = some (.lst [.ref l1, .ref l2]) ∧ H' l1 = some (.lst (dueOf (.err 0 d))) ∧ H' l2 = some (.lst (dueOf (.err 0 d)))) ?_ (fun U hU => ?_)
        rotate_left
        · walk_at "rd"
          refine hno _ _ _ ?_
          refine caught_ends' rfl rfl hof (fun H2 l2 sA nA eA => ?_)
          have ht2 : H2 tl = some (.lst [.ref l1]) := by walk_at "hp"
          have n2 : l2 ≠ tl := fun z => by
            rw [z, ht2] at eA
            cases eA
          walk_at "rd"
          · show 1 < sizeLine
            decide
          refine hU _ _ ⟨l2, rfl, ex_over sN nN (by walk_at "ex"), Tabs.over ht2 (by walk_at "tb"), upd_same, ?_, ?_⟩
          · rw [upd_ne n1]
            walk_at "hp"
          · rw [upd_ne n2]
            exact eA
        rintro σ' G9 ⟨l2, rfl, s9, t9, ht9, hl9, hm9⟩
        have hd9 : DA G9 r d := hd7.ext' s9
        walk_at "rd"
        rename_i p1 np1 p2 np2 p3 np3
        have hz := due_shaped2 hof
        refine ⟨_, _, .lst (.inl (.inl (by walk_at "hp"))) (.cons (dp_due (o := .err 0 d) (by walk_at "hp")) (.cons (dp_due (o := .err 0 d) (by walk_at "hp")) .nil)), .lst (xs := [.ref p1, .ref p1]) (.inl (.inl upd_same)) (.cons (dp_due (o := .err 0 d) (upd_new np3 (upd_new np2 upd_same))) (.cons (dp_due (o := .err 0 d) (upd_new np3 (upd_new np2 upd_same))) .nil)), hz, hz, _, rfl, ?_⟩
        refine iteF' (by simp [PyData.eqv, PyData.eqvAll, due_refl]) ?_
        exact fin _ (by walk_at "ex") (by walk_at "tb") _
    · obtain ⟨y1, y2, y3, y4, y5, y6, y7, y8, y9, y10, y11, rfl, kG, pG, tG⟩ := hI
      exact q _ kG pG tG
end
end Cb
end

section
set_option maxRecDepth 100000
set_option maxHeartbeats 4000000
namespace Cb
open PySem PySem.Spec PyProof.Rows L2
open LamX
abbrev n22 : List Int := [1, 2, 3, 4, 5, 6, 7, 8, 9, 10, 11, 12, 13, 14, 15, 16, 17, 18, 19, 20, 21, 22]
theorem dpInts {K : PySem.W.Frag} {H : Hp} : ∀ ns : List Int, DpAll K H (ns.map V.int) (ns.map PyData.int)
  | [] => .nil
  | n :: ns => .cons (.int n) (dpInts ns)
def spErrs : Sp := fun vs H Q _ => vs = [] ∧ ∀ H', L2.Same H H' → Q (.bl true) H'
abbrev mOne (f : Str) : List Value → Str → Option Value := fun us y => if y = f then us[0]? else none
theorem mOne_at (f : Str) : ∀ us : List Value, us.length = 1 → mOne f us f = us[0]? := fun us _ => if_pos rfl
theorem dI1 {K : PySem.W.Frag} {C fI : Addr} {f : Str} (F : ∀ v, InitDoes K C fI [v] [] (fun y => if y = f then some v else none)) : ∀ us, us.length = 1 → InitDoes K C fI us [] (mOne f us) := fun us h => match us, h with | [v], _ => F v
theorem dI1k {K : PySem.W.Frag} {C fI : Addr} {f : Str} (F : ∀ v, InitDoes K C fI [] [(f, v)] (fun y => if y = f then some v else none)) : ∀ us, us.length = 1 → InitDoes K C fI [] ([f].zip us) (mOne f us) := fun us h => match us, h with | [v], _ => F v
abbrev mTwo : List Value → Str → Option Value := fun us y => if y = "path" then us[1]? else if y = "function" then us[0]? else none
abbrev mTwoK : List Value → Str → Option Value := fun us y => if y = "path" then us[0]? else if y = "function" then us[1]? else none
theorem dI2 {K : PySem.W.Frag} {C fI : Addr} (F : ∀ v u, InitDoes K C fI [v, u] [] (fun y => if y = "path" then some u else if y = "function" then some v else none)) : ∀ us, us.length = 2 → InitDoes K C fI us [] (mTwo us) := fun us h => match us, h with | [v, u], _ => F v u
theorem dI2k {K : PySem.W.Frag} {C fI : Addr} (F : ∀ v u, InitDoes K C fI [] [("path", u), ("function", v)] (fun y => if y = "path" then some u else if y = "function" then some v else none)) : ∀ us, us.length = 2 → InitDoes K C fI [] ((["path", "function"] : List Str).zip us) (mTwoK us) := fun us h => match us, h with | [u, v], _ => F v u
theorem mTwo_f : ∀ us : List Value, us.length = 2 → mTwo us "function" = us[0]? := fun us _ => by
  show (if ("function" : Str) = "path" then us[1]? else if ("function" : Str) = "function" then us[0]? else none) = _
  rw [if_neg (by decide), if_pos rfl]
theorem mTwo_p : ∀ us : List Value, us.length = 2 → mTwo us "path" = us[1]? := fun us _ => if_pos rfl
theorem mTwoK_f : ∀ us : List Value, us.length = 2 → mTwoK us "function" = us[1]? := fun us _ => by
  show (if ("function" : Str) = "path" then us[0]? else if ("function" : Str) = "function" then us[1]? else none) = _
  rw [if_neg (by decide), if_pos rfl]
theorem mTwoK_p : ∀ us : List Value, us.length = 2 → mTwoK us "path" = us[0]? := fun us _ => if_pos rfl
theorem call_isN {X : Cx} {Ad : Nat → Addr} (R : Ers X.K X.mg Ad) : CallR X (.builtin "isinstance") (fun xs H Q => ∃ a, xs = [.ref a, .ref (Ad 15)] ∧ H a = some (ExO (.ref (Ad 20)) a) ∧ Q (.bl true) H) :=
  fun pins s σ H xs us Q I r h => by
    obtain ⟨a, e, ha, q⟩ := h
    exact call_isX R.isN pins s σ H xs us Q I r ⟨a, _, _, _, e, ha, fun u r => r, R.kitN, q⟩
local macro_rules | `(tactic| walk_at "pl") => `(tactic| first
  | ((with_reducible apply PoolAt.ext); (with_reducible assumption); walk_at "pl")
  | with_reducible assumption
  | ((with_reducible apply PoolAt.new); (with_reducible assumption); walk_at "pl")
  | ((with_reducible apply PoolAt.same'); (with_reducible assumption); walk_at "pl"))
local macro_rules | `(tactic| walk_at "ex") => `(tactic| first
  | with_reducible assumption
  | with_reducible exact ExtN.refl _
  | ((with_reducible apply ex_new); (with_reducible assumption); walk_at "ex")
  | ((with_reducible apply ex_ext); (with_reducible assumption); walk_at "ex")
  | ((with_reducible apply ex_same); (with_reducible assumption); walk_at "ex"))
local macro_rules | `(tactic| walk_at "tb") => `(tactic| first
  | with_reducible assumption
  | ((with_reducible apply Tabs.new); (with_reducible assumption); walk_at "tb")
  | ((with_reducible apply Tabs.same); (with_reducible assumption); walk_at "tb")
  | ((with_reducible apply Tabs.but); walk_at "pl"; (with_reducible assumption); walk_at "tb"))
local macro_rules | `(tactic| walk_at "hp") => `(tactic| first
  | ((with_reducible apply ext_lst); (with_reducible assumption); walk_at "hp")
  | ((with_reducible apply ext_tup); (with_reducible assumption); walk_at "hp")
  | with_reducible assumption
  | with_reducible exact upd_same
  | ((with_reducible apply upd_new); (with_reducible assumption); walk_at "hp")
  | ((with_reducible apply hp_same); (with_reducible assumption); walk_at "hp")
  | ((with_reducible apply but_tup); (with_reducible assumption); walk_at "pl"; walk_at "hp")
  | ((with_reducible apply but_lst); (with_reducible assumption); walk_at "pl"; walk_at "hp"; first | exact rfl | assumption | exact npool_app (by omega)))
local macro_rules | `(tactic| walk_at "da") => `(tactic| first
  | ((with_reducible apply DA.ext'); (with_reducible assumption); walk_at "da")
  | with_reducible assumption
  | with_reducible exact DA.int _
  | with_reducible exact DA.str _
  | with_reducible exact DA.bl _
  | with_reducible exact DA.non
  | ((with_reducible apply DA.tup); (with_reducible exact upd_same); walk_at "dal")
  | ((with_reducible apply DA.lst); (with_reducible exact upd_same); exact rfl; exact rfl; walk_at "dal")
  | with_reducible exact DA.dct upd_same
  | ((with_reducible apply DA.new); (with_reducible assumption); walk_at "da")
  | ((with_reducible apply DA.same'); (with_reducible assumption); walk_at "da")
  | ((with_reducible apply DA.but'); (with_reducible assumption); walk_at "pl"; walk_at "da"))
local macro_rules | `(tactic| walk_at "dal") => `(tactic| first
  | with_reducible assumption
  | ((with_reducible apply DAll.ext'); (with_reducible assumption); walk_at "dal")
  | ((with_reducible apply DAll.same'); (with_reducible assumption); walk_at "dal")
  | ((with_reducible apply DAll.new); (with_reducible assumption); walk_at "dal")
  | exact DAll.nil
  | (apply DAll.cons; walk_at "da"; walk_at "dal"))
local macro_rules | `(tactic| walk_at "ft") => `(tactic| first
  | with_reducible assumption
  | apply Fit.non'
  | apply Fit.bl'
  | (apply Fit.str (n := 20); decide +kernel)
  | (apply Fit.int'; first | decide | omega)
  | (apply Fit.tup'; walk_at "fta")
  | (apply Fit.lst'; walk_at "fta"))
local macro_rules | `(tactic| walk_at "fta") => `(tactic| first
  | apply FitAll.nil'
  | (apply FitAll.cons'; walk_at "ft"; walk_at "fta"))
local macro_rules | `(tactic| walk_at "sm") => `(tactic| first
  | with_reducible assumption
  | with_reducible exact L2.Same.refl _
  | ((with_reducible apply sm_new); (with_reducible assumption); walk_at "sm")
  | ((with_reducible apply sm_same); (with_reducible assumption); walk_at "sm"))
local macro_rules | `(tactic| walk_at "sb") => `(tactic| first
  | with_reducible assumption
  | with_reducible exact SameBut.refl _ _
  | ((with_reducible apply sb_new); (with_reducible assumption); walk_at "sb")
  | ((with_reducible apply sb_but); (with_reducible assumption); walk_at "sb")
  | ((with_reducible apply sb_same); (with_reducible assumption); walk_at "sb"))
local macro_rules | `(tactic| walk_at "sq") => `(tactic| first
  | (refine Or.inl (Or.inl ?_); walk_at "hp")
  | (refine Or.inr (Or.inl (Or.inl ?_)); walk_at "hp")
  | (refine Or.inl (Or.inl (Or.inl ?_)); walk_at "hp")
  | exact (by assumption : ∀ H', SqT _ H' _ _) _
  | exact Or.inr ((by assumption : ∀ H', SqT _ H' _ _) _))
local macro_rules | `(tactic| walk_at "dt") => `(tactic| first
  | with_reducible assumption
  | apply (by assumption : ∀ b, Dat b _ _ _ _)
  | (with_reducible apply Dat.non)
  | (with_reducible apply Dat.bl)
  | ((with_reducible apply Dat.str); first | decide +kernel | exact name_short _)
  | ((with_reducible apply Dat.int); first | decide | omega)
  | ((with_reducible apply Dat.intW); decide)
  | ((with_reducible apply Dat.dc1); with_reducible exact upd_same)
  | ((with_reducible apply Dat.up'); (first | (with_reducible assumption) | apply (by assumption : ∀ b, Dat b _ _ _ _)); omega)
  | ((with_reducible apply Dat.tup); (with_reducible exact upd_same); walk_at "dtl")
  | ((with_reducible apply Dat.lst); (with_reducible exact upd_same); (first | exact rfl | assumption); (first | exact rfl | assumption); walk_at "dtl")
  | ((with_reducible apply Dat.dct); with_reducible exact upd_same)
  | ((with_reducible apply Dat.new); (with_reducible assumption); walk_at "dt")
  | ((with_reducible apply Dat.same'); (with_reducible assumption); walk_at "dt")
  | ((with_reducible apply Dat.but'); (with_reducible assumption); walk_at "pl"; walk_at "dt")
  | ((with_reducible apply Dat.ofE); (with_reducible assumption); omega)
  | ((with_reducible apply Dat.leaf); (with_reducible assumption); assumption; assumption; decide; omega))
local macro_rules | `(tactic| walk_at "dtl") => `(tactic| first
  | apply DatL.nil
  | ((with_reducible apply DatL.cons); walk_at "dt"; walk_at "dtl")
  | with_reducible assumption
  | apply (by assumption : ∀ b, DatL b _ _ _ _)
  | ((with_reducible apply DatL.up'); (first | (with_reducible assumption) | apply (by assumption : ∀ b, DatL b _ _ _ _)); omega)
  | ((with_reducible apply DatL.new); (with_reducible assumption); walk_at "dtl")
  | ((with_reducible apply DatL.same'); (with_reducible assumption); walk_at "dtl")
  | ((with_reducible apply DatL.but'); (with_reducible assumption); walk_at "pl"; walk_at "dtl"))
local macro_rules | `(tactic| walk_at "al") => `(tactic| first
  | exact AllD.nil
  | ((with_reducible apply AllD.cons); walk_at "dt"; omega; walk_at "al")
  | with_reducible assumption
  | ((with_reducible apply AllD.app); walk_at "al"; walk_at "al")
  | ((with_reducible apply AllD.new); (with_reducible assumption); walk_at "al")
  | ((with_reducible apply AllD.same'); (with_reducible assumption); walk_at "al")
  | ((with_reducible apply AllD.but'); (with_reducible assumption); walk_at "pl"; walk_at "al"))
local macro_rules | `(tactic| walk_at "pt") => `(tactic| first
  | with_reducible assumption
  | ((with_reducible apply PatAt.new); (with_reducible assumption); walk_at "pt")
  | ((with_reducible apply PatAt.same'); (with_reducible assumption); walk_at "pt")
  | ((with_reducible apply PatAt.but'); (with_reducible assumption); walk_at "pl"; walk_at "pt"))
local macro_rules | `(tactic| walk_at "db") => `(tactic| first
  | with_reducible assumption
  | ((with_reducible apply DatB.new); (with_reducible assumption); walk_at "db")
  | ((with_reducible apply DatB.same'); (with_reducible assumption); walk_at "db")
  | ((with_reducible apply DatB.but'); (with_reducible assumption); walk_at "pl"; walk_at "db"))
local macro_rules | `(tactic| walk_at "dn") => `(tactic| first
  | with_reducible assumption
  | (with_reducible apply Dno.non)
  | (with_reducible apply Dno.bl)
  | ((with_reducible apply Dno.str); decide +kernel; exact rfl)
  | ((with_reducible apply Dno.int); decide)
  | ((with_reducible apply Dno.tup); (with_reducible exact upd_same); walk_at "dtl")
  | ((with_reducible apply Dno.lst); (with_reducible exact upd_same); exact rfl; exact rfl; walk_at "dtl")
  | ((with_reducible apply Dno.dct); with_reducible exact upd_same)
  | ((with_reducible apply Dno.new); (with_reducible assumption); walk_at "dn")
  | ((with_reducible apply Dno.same'); (with_reducible assumption); walk_at "dn")
  | ((with_reducible apply Dno.but'); (with_reducible assumption); walk_at "pl"; walk_at "dn"))
local macro_rules | `(tactic| walk_at "an") => `(tactic| first
  | exact AllN.nil
  | ((with_reducible apply AllN.cons); walk_at "dn"; omega; walk_at "an")
  | with_reducible assumption
  | ((with_reducible apply AllN.app); walk_at "an"; walk_at "an")
  | ((with_reducible apply AllN.new); (with_reducible assumption); walk_at "an")
  | ((with_reducible apply AllN.same'); (with_reducible assumption); walk_at "an")
  | ((with_reducible apply AllN.but'); (with_reducible assumption); walk_at "pl"; walk_at "an"))
local macro_rules | `(tactic| walk_at "st") => `(tactic| first
  | (with_reducible show ExtN _ _); (walk_at "ex")
  | (with_reducible show Tabs _ _); (walk_at "tb")
  | (with_reducible show DAll _ _ _); (walk_at "dal")
  | (with_reducible show upd _ _ _ _ = some _); (walk_at "hp")
  | (with_reducible show L2.Same _ _); (walk_at "sm")
  | (with_reducible refine And.intro ?_ ?_)
  | exact rfl
  | with_reducible assumption
  | (with_reducible show DA _ _ _); (walk_at "da")
  | (with_reducible show PoolAt _ _); (walk_at "pl")
  | (with_reducible show Dat _ _ _ _ _); (walk_at "dt")
  | (with_reducible show Fit _ _ _ _); (walk_at "ft")
  | (with_reducible show PatAt _ _ _); (walk_at "pt")
  | (with_reducible show SameBut _ _ _); (walk_at "sb")
  | (with_reducible show _ ≤ sizeLine); (first | exact len_line _ rfl | exact len_line2 _ _ rfl rfl | decide | omega | exact Nat.le_trans (m := 200000) (by omega) (by decide) | exact Nat.le_trans (m := 200000) (by simp only [List.length_cons, List.length_nil]; omega) (by decide))
  | (with_reducible first | show (_ : Int) ≤ _ | show (_ : Int) < _ | show (_ : Nat) ≤ _ | show (_ : Nat) < _); (first | omega | (simp only [List.length_append]; omega) | (simp only [List.length_cons, List.length_nil]; omega) | (simp only [List.length_append, List.length_cons, List.length_nil]; omega) | exact Int.lt_of_lt_of_le (by assumption) (by decide))
  | exact cut1_not _ _
  | exact List.cons_ne_nil _ _
  | exact fun h => absurd h (List.cons_ne_nil _ _)
  | exact fun h => (h rfl).elim
  | (with_reducible show DatB _ _ _ _); (walk_at "db")
  | (with_reducible show AllD _ _ _ _); (walk_at "al")
  | exact Or.inl ⟨rfl, _, Or.inl (Or.inl (by walk_at "hp"))⟩
  | exact fun h => absurd h.1 (Nat.ne_of_beq_eq_false rfl)
  | exact fun h => absurd h.2 (Nat.ne_of_beq_eq_false rfl)
  | exact at0 _ _
  | exact at1 _ _ _
  | (refine And.intro ?_ ?_)
  | (fail_if_success first | show (∃ _ : Nat → Nat → L2.St → Hp → Prop, _) | show (∃ _ : Nat → Nat → Hp → Prop, _) | show (∃ _ : Nat → L2.St → Hp → Prop, _) | show (∃ (_ : PyData) (_ : PyData), _) | show (∃ (_ : Addr) (_ : List V) (_ : V) (_ : Nat) (_ : V), _)); (apply Exists.intro)
  | (refine iteT' rfl ?_)
  | (refine iteF' rfl ?_)
  | walk_at "sq"
  | (with_reducible show _ = some _); (walk_at "hp")
  | intro _
  | assumption)
local macro_rules | `(tactic| walk_at "rd") => `(tactic| repeat walk_at "st")
section
variable {P : Program} {w : World} {K : PySem.W.Frag} {mg : Str → Option Value} {base : Heap} {cR PR cL PL : Addr} {Ad : Nat → Addr}
theorem g_law_errors_right (T : Txt K mg) (R : Ers K mg Ad) : Gives P w K mg base CX0 2 "_law_errors_right" spErrs := by
  refine gives_fun T.d_law_errors_right sc_law_errors_right (fun _ _ _ _ _ _ us hl => match us, hl with | [], _ => rfl) (fun vs H Q E h => ?_) (fun f cdv A outer s H vs Q E hr h => ?_)
  · obtain ⟨rfl, _⟩ := h
    rfl
  · obtain ⟨rfl, q⟩ := h
    obtain ⟨f1, J1⟩ := R.i1
    obtain ⟨f2, J2⟩ := R.i2
    obtain ⟨f3, J3⟩ := R.i3
    obtain ⟨f4, J4⟩ := R.i4
    obtain ⟨f5, J5⟩ := R.i5
    obtain ⟨f6, J6⟩ := R.i6
    obtain ⟨f7, J7⟩ := R.i7
    obtain ⟨f8, J8⟩ := R.i8
    obtain ⟨f9, J9⟩ := R.i9
    obtain ⟨f10, J10⟩ := R.i10
    obtain ⟨f11, J11⟩ := R.i11
    obtain ⟨f12, J12⟩ := R.i12
    obtain ⟨f13, J13⟩ := R.i13
    obtain ⟨f14, J14⟩ := R.i14
    obtain ⟨f16, J16⟩ := R.i16
    obtain ⟨f17, J17⟩ := R.i17
    obtain ⟨f18, J18⟩ := R.i18
    obtain ⟨f19, J19⟩ := R.i19
    obtain ⟨f22, J22⟩ := R.i22
    obtain ⟨f23, J23⟩ := R.i23
    obtain ⟨f24, J24⟩ := R.i24
    refine ⟨_, (pss_cons (ps_set (i := 0) sc_law_errors_right.nd rfl (Or.inl rfl) (pe_lst (pa_cons (pe_mkf (n := 1) (i := 0) R.e1 J1.iC J1.tC (dI1 fun v => init_value R.e1 J1 (.inl ⟨rfl, rfl⟩)) (mOne_at _) J1.noN (k := 0) (hr.mono (by decide)) (pa_cons pe_int pa_nil) (by rfl)) (pa_cons (pe_mkf (n := 1) (i := 0) R.e2 J2.iC J2.tC (dI1 fun v => init_value R.e2 J2 (.inl ⟨rfl, rfl⟩)) (mOne_at _) J2.noN (k := 0) (hr.mono (by decide)) (pa_cons pe_int pa_nil) (by rfl)) (pa_cons (pe_mkf (n := 1) (i := 0) R.e3 J3.iC J3.tC (dI1 fun v => init_index R.e3 J3 (.inl ⟨rfl, rfl⟩)) (mOne_at _) J3.noN (k := 0) (hr.mono (by decide)) (pa_cons pe_int pa_nil) (by rfl)) (pa_cons (pe_mkf (n := 1) (i := 0) R.e4 J4.iC J4.tC (dI1 fun v => init_value R.e4 J4 (.inl ⟨rfl, rfl⟩)) (mOne_at _) J4.noN (k := 0) (hr.mono (by decide)) (pa_cons pe_int pa_nil) (by rfl)) pa_nil))))))
      (pss_cons (ps_set (i := 0) sc_law_errors_right.nd rfl (Or.inl rfl) (pe_op op_cat (pv 0) (pe_lst (pa_cons (pe_mkf (n := 1) (i := 0) R.e5 J5.iC J5.tC (dI1 fun v => init_value R.e5 J5 (.inl ⟨rfl, rfl⟩)) (mOne_at _) J5.noN (k := 0) (hr.mono (by decide)) (pa_cons pe_int pa_nil) (by rfl)) (pa_cons (pe_mkf (n := 1) (i := 0) R.e6 J6.iC J6.tC (dI1 fun v => init_value R.e6 J6 (.inl ⟨rfl, rfl⟩)) (mOne_at _) J6.noN (k := 0) (hr.mono (by decide)) (pa_cons pe_int pa_nil) (by rfl)) (pa_cons (pe_mkf (n := 1) (i := 0) R.e7 J7.iC J7.tC (dI1 fun v => init_value R.e7 J7 (.inl ⟨rfl, rfl⟩)) (mOne_at _) J7.noN (k := 0) (hr.mono (by decide)) (pa_cons pe_int pa_nil) (by rfl)) (pa_cons (pe_mkf (n := 1) (i := 0) R.e8 J8.iC J8.tC (dI1 fun v => init_value R.e8 J8 (.inl ⟨rfl, rfl⟩)) (mOne_at _) J8.noN (k := 0) (hr.mono (by decide)) (pa_cons pe_int pa_nil) (by rfl)) pa_nil)))))))
      (pss_cons (ps_set (i := 0) sc_law_errors_right.nd rfl (Or.inl rfl) (pe_op op_cat (pv 0) (pe_lst (pa_cons (pe_mkf (n := 1) (i := 0) R.e9 J9.iC J9.tC (dI1 fun v => init_line R.e9 J9 (.inl ⟨rfl, rfl⟩)) (mOne_at _) J9.noN (k := 0) (hr.mono (by decide)) (pa_cons pe_int pa_nil) (by rfl)) (pa_cons (pe_mkf (n := 1) (i := 0) R.e10 J10.iC J10.tC (dI1 fun v => init_value R.e10 J10 (.inl ⟨rfl, rfl⟩)) (mOne_at _) J10.noN (k := 0) (hr.mono (by decide)) (pa_cons pe_int pa_nil) (by rfl)) (pa_cons (pe_mkf (n := 1) (i := 0) R.e11 J11.iC J11.tC (dI1 fun v => init_value R.e11 J11 (.inl ⟨rfl, rfl⟩)) (mOne_at _) J11.noN (k := 0) (hr.mono (by decide)) (pa_cons pe_int pa_nil) (by rfl)) (pa_cons (pe_mkf (n := 1) (i := 0) R.e12 J12.iC J12.tC (dI1 fun v => init_index R.e12 J12 (.inl ⟨rfl, rfl⟩)) (mOne_at _) J12.noN (k := 0) (hr.mono (by decide)) (pa_cons pe_int pa_nil) (by rfl)) pa_nil)))))))
      (pss_cons (ps_set (i := 0) sc_law_errors_right.nd rfl (Or.inl rfl) (pe_op op_cat (pv 0) (pe_lst (pa_cons (pe_mkf (n := 1) (i := 0) R.e13 J13.iC J13.tC (dI1 fun v => init_value R.e13 J13 (.inl ⟨rfl, rfl⟩)) (mOne_at _) J13.noN (k := 0) (hr.mono (by decide)) (pa_cons pe_int pa_nil) (by rfl)) (pa_cons (pe_mkf (n := 2) (i := 0) R.e14 J14.iC J14.tC (dI2 fun v u => init_two R.e14 J14 (.inl ⟨rfl, rfl⟩)) mTwo_f J14.noF (k := 0) (hr.mono (by decide)) (pa_cons pe_int (pa_cons pe_int pa_nil)) (by rfl)) (pa_cons (pe_mkf (n := 2) (i := 1) R.e14 J14.iC J14.tC (dI2 fun v u => init_two R.e14 J14 (.inl ⟨rfl, rfl⟩)) mTwo_p J14.noP (k := 0) (hr.mono (by decide)) (pa_cons pe_int (pa_cons pe_int pa_nil)) (by rfl)) (pa_cons (pe_mkf (n := 1) (i := 0) R.e16 J16.iC J16.tC (dI1 fun v => init_value R.e16 J16 (.inl ⟨rfl, rfl⟩)) (mOne_at _) J16.noN (k := 0) (hr.mono (by decide)) (pa_cons pe_int pa_nil) (by rfl)) pa_nil)))))))
      (pss_cons (ps_set (i := 0) sc_law_errors_right.nd rfl (Or.inl rfl) (pe_op op_cat (pv 0) (pe_lst (pa_cons (pe_mkf (n := 1) (i := 0) R.e17 J17.iC J17.tC (dI1 fun v => init_function R.e17 J17 (.inl ⟨rfl, rfl⟩)) (mOne_at _) J17.noN (k := 0) (hr.mono (by decide)) (pa_cons pe_int pa_nil) (by rfl)) (pa_cons (pe_mkf (n := 1) (i := 0) R.e18 J18.iC J18.tC (dI1 fun v => init_function R.e18 J18 (.inl ⟨rfl, rfl⟩)) (mOne_at _) J18.noN (k := 0) (hr.mono (by decide)) (pa_cons pe_int pa_nil) (by rfl)) (pa_cons (pe_mkf (n := 1) (i := 0) R.e19 J19.iC J19.tC (dI1 fun v => init_function R.e19 J19 (.inl ⟨rfl, rfl⟩)) (mOne_at _) J19.noN (k := 0) (hr.mono (by decide)) (pa_cons pe_int pa_nil) (by rfl)) (pa_cons (pe_mkf (n := 1) (i := 0) R.e22 J22.iC J22.tC (dI1 fun v => init_function R.e22 J22 (.inl ⟨rfl, rfl⟩)) (mOne_at _) J22.noN (k := 0) (hr.mono (by decide)) (pa_cons pe_int pa_nil) (by rfl)) pa_nil)))))))
      (pss_cons (ps_set (i := 0) sc_law_errors_right.nd rfl (Or.inl rfl) (pe_op op_cat (pv 0) (pe_lst (pa_cons (pe_mkf (n := 1) (i := 0) R.e23 J23.iC J23.tC (dI1 fun v => init_count R.e23 J23 (.inl ⟨rfl, rfl⟩)) (mOne_at _) J23.noN (k := 0) (hr.mono (by decide)) (pa_cons pe_int pa_nil) (by rfl)) (pa_cons (pe_mkf (n := 1) (i := 0) R.e24 J24.iC J24.tC (dI1 fun v => init_count R.e24 J24 (.inl ⟨rfl, rfl⟩)) (mOne_at _) J24.noN (k := 0) (hr.mono (by decide)) (pa_cons pe_int pa_nil) (by rfl)) pa_nil)))))
      (pss_cons (ps_set (i := 1) sc_law_errors_right.nd rfl (Or.inl rfl) (pe_lst (pa_cons (pe_mkfK (n := 1) (i := 0) (ks := ["value"]) R.e1 J1.iC J1.tC (dI1k fun v => init_value R.e1 J1 (.inr ⟨rfl, rfl⟩)) (mOne_at _) J1.noN (k := 0) (hr.mono (by decide)) (pk_cons pe_int pk_nil) (by rfl)) (pa_cons (pe_mkfK (n := 1) (i := 0) (ks := ["value"]) R.e2 J2.iC J2.tC (dI1k fun v => init_value R.e2 J2 (.inr ⟨rfl, rfl⟩)) (mOne_at _) J2.noN (k := 0) (hr.mono (by decide)) (pk_cons pe_int pk_nil) (by rfl)) (pa_cons (pe_mkfK (n := 1) (i := 0) (ks := ["index"]) R.e3 J3.iC J3.tC (dI1k fun v => init_index R.e3 J3 (.inr ⟨rfl, rfl⟩)) (mOne_at _) J3.noN (k := 0) (hr.mono (by decide)) (pk_cons pe_int pk_nil) (by rfl)) pa_nil)))))
      (pss_cons (ps_set (i := 1) sc_law_errors_right.nd rfl (Or.inl rfl) (pe_op op_cat (pv 1) (pe_lst (pa_cons (pe_mkfK (n := 1) (i := 0) (ks := ["value"]) R.e4 J4.iC J4.tC (dI1k fun v => init_value R.e4 J4 (.inr ⟨rfl, rfl⟩)) (mOne_at _) J4.noN (k := 0) (hr.mono (by decide)) (pk_cons pe_int pk_nil) (by rfl)) (pa_cons (pe_mkfK (n := 1) (i := 0) (ks := ["value"]) R.e5 J5.iC J5.tC (dI1k fun v => init_value R.e5 J5 (.inr ⟨rfl, rfl⟩)) (mOne_at _) J5.noN (k := 0) (hr.mono (by decide)) (pk_cons pe_int pk_nil) (by rfl)) (pa_cons (pe_mkfK (n := 1) (i := 0) (ks := ["value"]) R.e6 J6.iC J6.tC (dI1k fun v => init_value R.e6 J6 (.inr ⟨rfl, rfl⟩)) (mOne_at _) J6.noN (k := 0) (hr.mono (by decide)) (pk_cons pe_int pk_nil) (by rfl)) pa_nil))))))
      (pss_cons (ps_set (i := 1) sc_law_errors_right.nd rfl (Or.inl rfl) (pe_op op_cat (pv 1) (pe_lst (pa_cons (pe_mkfK (n := 1) (i := 0) (ks := ["value"]) R.e7 J7.iC J7.tC (dI1k fun v => init_value R.e7 J7 (.inr ⟨rfl, rfl⟩)) (mOne_at _) J7.noN (k := 0) (hr.mono (by decide)) (pk_cons pe_int pk_nil) (by rfl)) (pa_cons (pe_mkfK (n := 1) (i := 0) (ks := ["value"]) R.e8 J8.iC J8.tC (dI1k fun v => init_value R.e8 J8 (.inr ⟨rfl, rfl⟩)) (mOne_at _) J8.noN (k := 0) (hr.mono (by decide)) (pk_cons pe_int pk_nil) (by rfl)) (pa_cons (pe_mkfK (n := 1) (i := 0) (ks := ["line"]) R.e9 J9.iC J9.tC (dI1k fun v => init_line R.e9 J9 (.inr ⟨rfl, rfl⟩)) (mOne_at _) J9.noN (k := 0) (hr.mono (by decide)) (pk_cons pe_int pk_nil) (by rfl)) pa_nil))))))
      (pss_cons (ps_set (i := 1) sc_law_errors_right.nd rfl (Or.inl rfl) (pe_op op_cat (pv 1) (pe_lst (pa_cons (pe_mkfK (n := 1) (i := 0) (ks := ["value"]) R.e10 J10.iC J10.tC (dI1k fun v => init_value R.e10 J10 (.inr ⟨rfl, rfl⟩)) (mOne_at _) J10.noN (k := 0) (hr.mono (by decide)) (pk_cons pe_int pk_nil) (by rfl)) (pa_cons (pe_mkfK (n := 1) (i := 0) (ks := ["value"]) R.e11 J11.iC J11.tC (dI1k fun v => init_value R.e11 J11 (.inr ⟨rfl, rfl⟩)) (mOne_at _) J11.noN (k := 0) (hr.mono (by decide)) (pk_cons pe_int pk_nil) (by rfl)) (pa_cons (pe_mkfK (n := 1) (i := 0) (ks := ["index"]) R.e12 J12.iC J12.tC (dI1k fun v => init_index R.e12 J12 (.inr ⟨rfl, rfl⟩)) (mOne_at _) J12.noN (k := 0) (hr.mono (by decide)) (pk_cons pe_int pk_nil) (by rfl)) pa_nil))))))
      (pss_cons (ps_set (i := 1) sc_law_errors_right.nd rfl (Or.inl rfl) (pe_op op_cat (pv 1) (pe_lst (pa_cons (pe_mkfK (n := 1) (i := 0) (ks := ["value"]) R.e13 J13.iC J13.tC (dI1k fun v => init_value R.e13 J13 (.inr ⟨rfl, rfl⟩)) (mOne_at _) J13.noN (k := 0) (hr.mono (by decide)) (pk_cons pe_int pk_nil) (by rfl)) (pa_cons (pe_mkfK (n := 2) (i := 1) (ks := ["path", "function"]) R.e14 J14.iC J14.tC (dI2k fun v u => init_two R.e14 J14 (.inr ⟨rfl, rfl⟩)) mTwoK_f J14.noF (k := 0) (hr.mono (by decide)) (pk_cons pe_int (pk_cons pe_int pk_nil)) (by rfl)) pa_nil)))))
      (pss_cons (ps_set (i := 1) sc_law_errors_right.nd rfl (Or.inl rfl) (pe_op op_cat (pv 1) (pe_lst (pa_cons (pe_mkfK (n := 2) (i := 0) (ks := ["path", "function"]) R.e14 J14.iC J14.tC (dI2k fun v u => init_two R.e14 J14 (.inr ⟨rfl, rfl⟩)) mTwoK_p J14.noP (k := 0) (hr.mono (by decide)) (pk_cons pe_int (pk_cons pe_int pk_nil)) (by rfl)) (pa_cons (pe_mkfK (n := 1) (i := 0) (ks := ["value"]) R.e16 J16.iC J16.tC (dI1k fun v => init_value R.e16 J16 (.inr ⟨rfl, rfl⟩)) (mOne_at _) J16.noN (k := 0) (hr.mono (by decide)) (pk_cons pe_int pk_nil) (by rfl)) pa_nil)))))
      (pss_cons (ps_set (i := 1) sc_law_errors_right.nd rfl (Or.inl rfl) (pe_op op_cat (pv 1) (pe_lst (pa_cons (pe_mkfK (n := 1) (i := 0) (ks := ["function"]) R.e17 J17.iC J17.tC (dI1k fun v => init_function R.e17 J17 (.inr ⟨rfl, rfl⟩)) (mOne_at _) J17.noN (k := 0) (hr.mono (by decide)) (pk_cons pe_int pk_nil) (by rfl)) (pa_cons (pe_mkfK (n := 1) (i := 0) (ks := ["function"]) R.e18 J18.iC J18.tC (dI1k fun v => init_function R.e18 J18 (.inr ⟨rfl, rfl⟩)) (mOne_at _) J18.noN (k := 0) (hr.mono (by decide)) (pk_cons pe_int pk_nil) (by rfl)) pa_nil)))))
      (pss_cons (ps_set (i := 1) sc_law_errors_right.nd rfl (Or.inl rfl) (pe_op op_cat (pv 1) (pe_lst (pa_cons (pe_mkfK (n := 1) (i := 0) (ks := ["function"]) R.e19 J19.iC J19.tC (dI1k fun v => init_function R.e19 J19 (.inr ⟨rfl, rfl⟩)) (mOne_at _) J19.noN (k := 0) (hr.mono (by decide)) (pk_cons pe_int pk_nil) (by rfl)) (pa_cons (pe_mkfK (n := 1) (i := 0) (ks := ["function"]) R.e22 J22.iC J22.tC (dI1k fun v => init_function R.e22 J22 (.inr ⟨rfl, rfl⟩)) (mOne_at _) J22.noN (k := 0) (hr.mono (by decide)) (pk_cons pe_int pk_nil) (by rfl)) pa_nil)))))
      (pss_cons (ps_set (i := 1) sc_law_errors_right.nd rfl (Or.inl rfl) (pe_op op_cat (pv 1) (pe_lst (pa_cons (pe_mkfK (n := 1) (i := 0) (ks := ["count"]) R.e23 J23.iC J23.tC (dI1k fun v => init_count R.e23 J23 (.inr ⟨rfl, rfl⟩)) (mOne_at _) J23.noN (k := 0) (hr.mono (by decide)) (pk_cons pe_int pk_nil) (by rfl)) (pa_cons (pe_mkfK (n := 1) (i := 0) (ks := ["count"]) R.e24 J24.iC J24.tC (dI1k fun v => init_count R.e24 J24 (.inr ⟨rfl, rfl⟩)) (mOne_at _) J24.noN (k := 0) (hr.mono (by decide)) (pk_cons pe_int pk_nil) (by rfl)) pa_nil)))))
      (pss_cons (ps_if (pt_not (pt_val (pe_callB (call_isN R) (by rfl) T.n_isinstance (by decide +kernel) (pa_cons (pe_exc0 okLE.F R.exN R.g20 R.kpN (by rfl)) (pa_cons (pe_gd (by rfl) R.g15) pa_nil))))) (pss_one (ps_ret pe_bl)) pss_nil)
      (pss_one (ps_ret (pe_and (pe_cmpR (op_eqD (units64 hr)) (pv 0) (pe_listRg rfl (by rfl) T.n_list (prg_2 (by rfl) T.n_range pe_int pe_int)) (nomark _)) (pe_one (pe_cmpR (op_eqD (units64 hr)) (pv 1) (pv 0) (nomark _)))))))))))))))))))))), ?_⟩
    refine seq_then (fun σ' H' => ∃ l, σ' = [some (.ref l), none] ∧ L2.Same H H' ∧ H' l = some (.lst [.int 1, .int 2, .int 3, .int 4])) ?_ (fun U hU => ?_)
    rotate_left
    · walk_at "rd"
      exact hU _ _ ⟨_, rfl, by walk_at "sm", upd_same⟩
    rintro σ' H0 ⟨l0, rfl, s0, hl0⟩
    refine seq_then (fun σ' H' => ∃ l, σ' = [some (.ref l), none] ∧ L2.Same H H' ∧ H' l = some (.lst [.int 1, .int 2, .int 3, .int 4, .int 5, .int 6, .int 7, .int 8])) ?_ (fun U hU => ?_)
    rotate_left
    · walk_at "rd"
      exact hU _ _ ⟨_, rfl, by walk_at "sm", upd_same⟩
    rintro σ' H1 ⟨l1, rfl, s1, hl1⟩
    clear hl0 s0 l0 H0
    refine seq_then (fun σ' H' => ∃ l, σ' = [some (.ref l), none] ∧ L2.Same H H' ∧ H' l = some (.lst [.int 1, .int 2, .int 3, .int 4, .int 5, .int 6, .int 7, .int 8, .int 9, .int 10, .int 11, .int 12])) ?_ (fun U hU => ?_)
    rotate_left
    · walk_at "rd"
      exact hU _ _ ⟨_, rfl, by walk_at "sm", upd_same⟩
    rintro σ' H2 ⟨l2, rfl, s2, hl2⟩
    clear hl1 s1 l1 H1
    refine seq_then (fun σ' H' => ∃ l, σ' = [some (.ref l), none] ∧ L2.Same H H' ∧ H' l = some (.lst [.int 1, .int 2, .int 3, .int 4, .int 5, .int 6, .int 7, .int 8, .int 9, .int 10, .int 11, .int 12, .int 13, .int 14, .int 15, .int 16])) ?_ (fun U hU => ?_)
    rotate_left
    · walk_at "rd"
      exact hU _ _ ⟨_, rfl, by walk_at "sm", upd_same⟩
    rintro σ' H3 ⟨l3, rfl, s3, hl3⟩
    clear hl2 s2 l2 H2
    refine seq_then (fun σ' H' => ∃ l, σ' = [some (.ref l), none] ∧ L2.Same H H' ∧ H' l = some (.lst [.int 1, .int 2, .int 3, .int 4, .int 5, .int 6, .int 7, .int 8, .int 9, .int 10, .int 11, .int 12, .int 13, .int 14, .int 15, .int 16, .int 17, .int 18, .int 19, .int 20])) ?_ (fun U hU => ?_)
    rotate_left
    · walk_at "rd"
      exact hU _ _ ⟨_, rfl, by walk_at "sm", upd_same⟩
    rintro σ' H4 ⟨l4, rfl, s4, hl4⟩
    clear hl3 s3 l3 H3
    refine seq_then (fun σ' H' => ∃ l, σ' = [some (.ref l), none] ∧ L2.Same H H' ∧ H' l = some (.lst [.int 1, .int 2, .int 3, .int 4, .int 5, .int 6, .int 7, .int 8, .int 9, .int 10, .int 11, .int 12, .int 13, .int 14, .int 15, .int 16, .int 17, .int 18, .int 19, .int 20, .int 21, .int 22])) ?_ (fun U hU => ?_)
    rotate_left
    · walk_at "rd"
      exact hU _ _ ⟨_, rfl, by walk_at "sm", upd_same⟩
    rintro σ' H5 ⟨l5, rfl, s5, hl5⟩
    clear hl4 s4 l4 H4
    refine seq_then (fun σ' H' => ∃ l, σ' = [some (.ref l5), some (.ref l)] ∧ L2.Same H H' ∧ H' l5 = some (.lst [.int 1, .int 2, .int 3, .int 4, .int 5, .int 6, .int 7, .int 8, .int 9, .int 10, .int 11, .int 12, .int 13, .int 14, .int 15, .int 16, .int 17, .int 18, .int 19, .int 20, .int 21, .int 22]) ∧ H' l = some (.lst [.int 1, .int 2, .int 3])) ?_ (fun U hU => ?_)
    rotate_left
    · walk_at "rd"
      exact hU _ _ ⟨_, rfl, by walk_at "sm", by walk_at "hp", upd_same⟩
    rintro σ' H6 ⟨l6, rfl, s6, ht6, hl6⟩
    clear hl5 s5 H5
    refine seq_then (fun σ' H' => ∃ l, σ' = [some (.ref l5), some (.ref l)] ∧ L2.Same H H' ∧ H' l5 = some (.lst [.int 1, .int 2, .int 3, .int 4, .int 5, .int 6, .int 7, .int 8, .int 9, .int 10, .int 11, .int 12, .int 13, .int 14, .int 15, .int 16, .int 17, .int 18, .int 19, .int 20, .int 21, .int 22]) ∧ H' l = some (.lst [.int 1, .int 2, .int 3, .int 4, .int 5, .int 6])) ?_ (fun U hU => ?_)
    rotate_left
    · walk_at "rd"
      exact hU _ _ ⟨_, rfl, by walk_at "sm", by walk_at "hp", upd_same⟩
    rintro σ' H7 ⟨l7, rfl, s7, ht7, hl7⟩
    clear ht6 hl6 s6 l6 H6
    refine seq_then (fun σ' H' => ∃ l, σ' = [some (.ref l5), some (.ref l)] ∧ L2.Same H H' ∧ H' l5 = some (.lst [.int 1, .int 2, .int 3, .int 4, .int 5, .int 6, .int 7, .int 8, .int 9, .int 10, .int 11, .int 12, .int 13, .int 14, .int 15, .int 16, .int 17, .int 18, .int 19, .int 20, .int 21, .int 22]) ∧ H' l = some (.lst [.int 1, .int 2, .int 3, .int 4, .int 5, .int 6, .int 7, .int 8, .int 9])) ?_ (fun U hU => ?_)
    rotate_left
    · walk_at "rd"
      exact hU _ _ ⟨_, rfl, by walk_at "sm", by walk_at "hp", upd_same⟩
    rintro σ' H8 ⟨l8, rfl, s8, ht8, hl8⟩
    clear ht7 hl7 s7 l7 H7
    refine seq_then (fun σ' H' => ∃ l, σ' = [some (.ref l5), some (.ref l)] ∧ L2.Same H H' ∧ H' l5 = some (.lst [.int 1, .int 2, .int 3, .int 4, .int 5, .int 6, .int 7, .int 8, .int 9, .int 10, .int 11, .int 12, .int 13, .int 14, .int 15, .int 16, .int 17, .int 18, .int 19, .int 20, .int 21, .int 22]) ∧ H' l = some (.lst [.int 1, .int 2, .int 3, .int 4, .int 5, .int 6, .int 7, .int 8, .int 9, .int 10, .int 11, .int 12])) ?_ (fun U hU => ?_)
    rotate_left
    · walk_at "rd"
      exact hU _ _ ⟨_, rfl, by walk_at "sm", by walk_at "hp", upd_same⟩
    rintro σ' H9 ⟨l9, rfl, s9, ht9, hl9⟩
    clear ht8 hl8 s8 l8 H8
    refine seq_then (fun σ' H' => ∃ l, σ' = [some (.ref l5), some (.ref l)] ∧ L2.Same H H' ∧ H' l5 = some (.lst [.int 1, .int 2, .int 3, .int 4, .int 5, .int 6, .int 7, .int 8, .int 9, .int 10, .int 11, .int 12, .int 13, .int 14, .int 15, .int 16, .int 17, .int 18, .int 19, .int 20, .int 21, .int 22]) ∧ H' l = some (.lst [.int 1, .int 2, .int 3, .int 4, .int 5, .int 6, .int 7, .int 8, .int 9, .int 10, .int 11, .int 12, .int 13, .int 14])) ?_ (fun U hU => ?_)
    rotate_left
    · walk_at "rd"
      exact hU _ _ ⟨_, rfl, by walk_at "sm", by walk_at "hp", upd_same⟩
    rintro σ' H10 ⟨l10, rfl, s10, ht10, hl10⟩
    clear ht9 hl9 s9 l9 H9
    refine seq_then (fun σ' H' => ∃ l, σ' = [some (.ref l5), some (.ref l)] ∧ L2.Same H H' ∧ H' l5 = some (.lst [.int 1, .int 2, .int 3, .int 4, .int 5, .int 6, .int 7, .int 8, .int 9, .int 10, .int 11, .int 12, .int 13, .int 14, .int 15, .int 16, .int 17, .int 18, .int 19, .int 20, .int 21, .int 22]) ∧ H' l = some (.lst [.int 1, .int 2, .int 3, .int 4, .int 5, .int 6, .int 7, .int 8, .int 9, .int 10, .int 11, .int 12, .int 13, .int 14, .int 15, .int 16])) ?_ (fun U hU => ?_)
    rotate_left
    · walk_at "rd"
      exact hU _ _ ⟨_, rfl, by walk_at "sm", by walk_at "hp", upd_same⟩
    rintro σ' H11 ⟨l11, rfl, s11, ht11, hl11⟩
    clear ht10 hl10 s10 l10 H10
    refine seq_then (fun σ' H' => ∃ l, σ' = [some (.ref l5), some (.ref l)] ∧ L2.Same H H' ∧ H' l5 = some (.lst [.int 1, .int 2, .int 3, .int 4, .int 5, .int 6, .int 7, .int 8, .int 9, .int 10, .int 11, .int 12, .int 13, .int 14, .int 15, .int 16, .int 17, .int 18, .int 19, .int 20, .int 21, .int 22]) ∧ H' l = some (.lst [.int 1, .int 2, .int 3, .int 4, .int 5, .int 6, .int 7, .int 8, .int 9, .int 10, .int 11, .int 12, .int 13, .int 14, .int 15, .int 16, .int 17, .int 18])) ?_ (fun U hU => ?_)
    rotate_left
    · walk_at "rd"
      exact hU _ _ ⟨_, rfl, by walk_at "sm", by walk_at "hp", upd_same⟩
    rintro σ' H12 ⟨l12, rfl, s12, ht12, hl12⟩
    clear ht11 hl11 s11 l11 H11
    refine seq_then (fun σ' H' => ∃ l, σ' = [some (.ref l5), some (.ref l)] ∧ L2.Same H H' ∧ H' l5 = some (.lst [.int 1, .int 2, .int 3, .int 4, .int 5, .int 6, .int 7, .int 8, .int 9, .int 10, .int 11, .int 12, .int 13, .int 14, .int 15, .int 16, .int 17, .int 18, .int 19, .int 20, .int 21, .int 22]) ∧ H' l = some (.lst [.int 1, .int 2, .int 3, .int 4, .int 5, .int 6, .int 7, .int 8, .int 9, .int 10, .int 11, .int 12, .int 13, .int 14, .int 15, .int 16, .int 17, .int 18, .int 19, .int 20])) ?_ (fun U hU => ?_)
    rotate_left
    · walk_at "rd"
      exact hU _ _ ⟨_, rfl, by walk_at "sm", by walk_at "hp", upd_same⟩
    rintro σ' H13 ⟨l13, rfl, s13, ht13, hl13⟩
    clear ht12 hl12 s12 l12 H12
    refine seq_then (fun σ' H' => ∃ l, σ' = [some (.ref l5), some (.ref l)] ∧ L2.Same H H' ∧ H' l5 = some (.lst [.int 1, .int 2, .int 3, .int 4, .int 5, .int 6, .int 7, .int 8, .int 9, .int 10, .int 11, .int 12, .int 13, .int 14, .int 15, .int 16, .int 17, .int 18, .int 19, .int 20, .int 21, .int 22]) ∧ H' l = some (.lst [.int 1, .int 2, .int 3, .int 4, .int 5, .int 6, .int 7, .int 8, .int 9, .int 10, .int 11, .int 12, .int 13, .int 14, .int 15, .int 16, .int 17, .int 18, .int 19, .int 20, .int 21, .int 22])) ?_ (fun U hU => ?_)
    rotate_left
    · walk_at "rd"
      exact hU _ _ ⟨_, rfl, by walk_at "sm", by walk_at "hp", upd_same⟩
    rintro σ' H14 ⟨l14, rfl, s14, ht14, hl14⟩
    clear ht13 hl13 s13 l13 H13
    have ht : H14 l5 = some (.lst (n22.map V.int)) := ht14
    have hm : H14 l14 = some (.lst (n22.map V.int)) := hl14
    have sh : SeqAt.shaped (.list (n22.map PyData.int)) = true := by decide +kernel
    have ev : PyData.eqv (.list (n22.map PyData.int)) (.list (n22.map PyData.int)) = true := by decide +kernel
    clear ht14 hl14
    walk_at "rd"
    rename_i a na q1 nq
    have hr1 : upd (upd H14 a (ExO (.ref (Ad 20)) a)) q1 (.lst (rgV 1 23)) q1 = some (.lst (n22.map V.int)) := upd_same
    refine ⟨_, _, .lst (.inl (.inl (by walk_at "hp"))) (dpInts n22), .lst (.inl (.inl hr1)) (dpInts n22), sh, sh, _, rfl, ?_⟩
    rw [ev]
    refine iteT' rfl ?_
    refine ⟨_, rfl, _, rfl, _, _, .lst (.inl (.inl (upd_new nq (upd_new na hm)))) (dpInts n22), .lst (.inl (.inl (upd_new nq (upd_new na ht)))) (dpInts n22), sh, sh, ?_⟩
    rw [ev]
    exact q _ (by walk_at "sm")
end
end Cb
end

section
set_option maxRecDepth 100000
set_option maxHeartbeats 4000000

namespace Cb
open PySem PySem.Spec PyProof.Rows L2
open LamX
def spLawT (K : PySem.W.Frag) (PR PL : Addr) : Sp := fun vs H Q _ => ∃ (a : Addr) (ns : List Int), vs = [.ref a] ∧ SqL K H a (ns.map V.int) ∧ ns.length ≤ 63 ∧ Tabs (Ts PR PL) H ∧ ∀ H', Q (.bl true) H'
theorem sql_ext {K : PySem.W.Frag} {H H' : Hp} {a : Addr} {xs : List V} (e : ExtN H H') (h : SqL K H a xs) : SqL K H' a xs := by
  rcases h with (h | ⟨o, h⟩) | h
  · exact .inl (.inl (e _ _ h (fun _ z => nomatch z)))
  · exact .inl (.inr ⟨o, e _ _ h (fun _ z => nomatch z)⟩)
  · exact .inr h
theorem keep_ext {H H1 H2 H3 : Hp} {p : Addr} (s : ExtN H H1) (n : H1 p = none) (t : ExtN H H2) (k : Keep p H2 H3) : ExtN H H3 := fun b o e hn => k b o (fun z => by
  subst z
  rw [s b o e hn] at n
  cases n) hn (t b o e hn)
/-- an item of the first table: two data, and how the call ends -/
def P5 (H : Hp) (x : V) : Prop := ∃ (t l : Addr) (va vb : V) (da db : PyData) (s : Str), x = .ref t ∧ H t = some (.tup [.ref l, .str s]) ∧ H l = some (.lst [va, vb]) ∧ DA H va da ∧ DA H vb db ∧
  ((s = "none" ∧ opOut (.str "add") [da, db] = .ret) ∨ ((!decide (V.str s = V.str "none")) = true ∧ ∃ i : Int, opOut (.str "add") [da, db] = .err 2 (.int i) ∧ (PyData.int i).shown = s))
theorem P5.ext {H H' : Hp} {x : V} (e : ExtN H H') (h : P5 H x) : P5 H' x := by
  obtain ⟨t, l, va, vb, da, db, s, e1, h1, h2, h3, h4, h5⟩ := h
  exact ⟨t, l, va, vb, da, db, s, e1, ext_tup e h1, ext_lst e h2, h3.ext' e, h4.ext' e, h5⟩
/-- an item of the second table -/
def P4 (H : Hp) (x : V) : Prop := ∃ (t l : Addr) (v : V) (d : PyData), x = .ref t ∧ H t = some (.tup [v, .ref l]) ∧ DA H v d ∧ Fit true 42 6 d ∧ H l = some (.lst (dueOf (if isIntD d = true then .ret else .err 0 d)))
theorem P4.ext {H H' : Hp} {x : V} (e : ExtN H H') (h : P4 H x) : P4 H' x := by
  obtain ⟨t, l, v, d, e1, h1, h2, hf, h3⟩ := h
  exact ⟨t, l, v, d, e1, ext_tup e h1, h2.ext' e, hf, ext_lst e h3⟩
theorem all_nil {p : V → Prop} : ∀ y ∈ ([] : List V), p y := fun _ h => nomatch h
theorem all_cons {p : V → Prop} {x : V} {xs : List V} (h : p x) (t : ∀ y ∈ xs, p y) : ∀ y ∈ x :: xs, p y := fun y hy => by
  rcases List.mem_cons.mp hy with z | z
  · rw [z]
    exact h
  · exact t y z
theorem wrap_fit {d : PyData} (h : Fit true 42 6 d) : ∀ k e, (if isIntD d = true then Outc.ret else .err 0 d) = .err k e → k < 3 ∧ ∃ b n, Fit b n 100 e ∧ n ≤ 200000 := fun k e z => by
  cases hi : isIntD d with
  | true =>
    rw [hi] at z
    cases z
  | false =>
    rw [hi] at z
    cases z
    exact ⟨by decide, true, 42, h.mono (Nat.le_refl _) (by decide), by decide⟩
local macro_rules | `(tactic| walk_at "pl") => `(tactic| first
  | ((with_reducible apply PoolAt.ext); (with_reducible assumption); walk_at "pl")
  | with_reducible assumption
  | ((with_reducible apply PoolAt.new); (with_reducible assumption); walk_at "pl")
  | ((with_reducible apply PoolAt.same'); (with_reducible assumption); walk_at "pl"))
local macro_rules | `(tactic| walk_at "ex") => `(tactic| first
  | with_reducible assumption
  | with_reducible exact ExtN.refl _
  | ((with_reducible apply ex_new); (with_reducible assumption); walk_at "ex")
  | ((with_reducible apply ex_ext); (with_reducible assumption); walk_at "ex")
  | ((with_reducible apply ex_same); (with_reducible assumption); walk_at "ex"))
local macro_rules | `(tactic| walk_at "tb") => `(tactic| first
  | with_reducible assumption
  | ((with_reducible apply Tabs.new); (with_reducible assumption); walk_at "tb")
  | ((with_reducible apply Tabs.same); (with_reducible assumption); walk_at "tb")
  | ((with_reducible apply Tabs.but); walk_at "pl"; (with_reducible assumption); walk_at "tb"))
local macro_rules | `(tactic| walk_at "hp") => `(tactic| first
  | ((with_reducible apply ext_lst); (with_reducible assumption); walk_at "hp")
  | ((with_reducible apply ext_tup); (with_reducible assumption); walk_at "hp")
  | with_reducible assumption
  | with_reducible exact upd_same
  | ((with_reducible apply upd_new); (with_reducible assumption); walk_at "hp")
  | ((with_reducible apply hp_same); (with_reducible assumption); walk_at "hp")
  | ((with_reducible apply but_tup); (with_reducible assumption); walk_at "pl"; walk_at "hp")
  | ((with_reducible apply but_lst); (with_reducible assumption); walk_at "pl"; walk_at "hp"; first | exact rfl | assumption | exact npool_app (by omega)))
local macro_rules | `(tactic| walk_at "da") => `(tactic| first
  | ((with_reducible apply DA.ext'); (with_reducible assumption); walk_at "da")
  | with_reducible assumption
  | with_reducible exact DA.int _
  | with_reducible exact DA.str _
  | with_reducible exact DA.bl _
  | with_reducible exact DA.non
  | ((with_reducible apply DA.tup); (with_reducible exact upd_same); walk_at "dal")
  | ((with_reducible apply DA.lst); (with_reducible exact upd_same); exact rfl; exact rfl; walk_at "dal")
  | with_reducible exact DA.dct upd_same
  | ((with_reducible apply DA.new); (with_reducible assumption); walk_at "da")
  | ((with_reducible apply DA.same'); (with_reducible assumption); walk_at "da")
  | ((with_reducible apply DA.but'); (with_reducible assumption); walk_at "pl"; walk_at "da"))
local macro_rules | `(tactic| walk_at "dal") => `(tactic| first
  | with_reducible assumption
  | ((with_reducible apply DAll.ext'); (with_reducible assumption); walk_at "dal")
  | ((with_reducible apply DAll.same'); (with_reducible assumption); walk_at "dal")
  | ((with_reducible apply DAll.new); (with_reducible assumption); walk_at "dal")
  | exact DAll.nil
  | (apply DAll.cons; walk_at "da"; walk_at "dal"))
local macro_rules | `(tactic| walk_at "ft") => `(tactic| first
  | with_reducible assumption
  | apply Fit.non'
  | apply Fit.bl'
  | (apply Fit.str (n := 20); decide +kernel)
  | (apply Fit.int'; first | decide | omega)
  | (apply Fit.tup'; walk_at "fta")
  | (apply Fit.lst'; walk_at "fta"))
local macro_rules | `(tactic| walk_at "fta") => `(tactic| first
  | apply FitAll.nil'
  | (apply FitAll.cons'; walk_at "ft"; walk_at "fta"))
local macro_rules | `(tactic| walk_at "sm") => `(tactic| first
  | with_reducible assumption
  | with_reducible exact L2.Same.refl _
  | ((with_reducible apply sm_new); (with_reducible assumption); walk_at "sm")
  | ((with_reducible apply sm_same); (with_reducible assumption); walk_at "sm"))
local macro_rules | `(tactic| walk_at "sb") => `(tactic| first
  | with_reducible assumption
  | with_reducible exact SameBut.refl _ _
  | ((with_reducible apply sb_new); (with_reducible assumption); walk_at "sb")
  | ((with_reducible apply sb_but); (with_reducible assumption); walk_at "sb")
  | ((with_reducible apply sb_same); (with_reducible assumption); walk_at "sb"))
local macro_rules | `(tactic| walk_at "sq") => `(tactic| first
  | (refine Or.inl (Or.inl ?_); walk_at "hp")
  | (refine Or.inr (Or.inl (Or.inl ?_)); walk_at "hp")
  | (refine Or.inl (Or.inl (Or.inl ?_)); walk_at "hp")
  | exact (by assumption : ∀ H', SqT _ H' _ _) _
  | exact Or.inr ((by assumption : ∀ H', SqT _ H' _ _) _))
local macro_rules | `(tactic| walk_at "dt") => `(tactic| first
  | with_reducible assumption
  | apply (by assumption : ∀ b, Dat b _ _ _ _)
  | (with_reducible apply Dat.non)
  | (with_reducible apply Dat.bl)
  | ((with_reducible apply Dat.str); first | decide +kernel | exact name_short _)
  | ((with_reducible apply Dat.int); first | decide | omega)
  | ((with_reducible apply Dat.intW); decide)
  | ((with_reducible apply Dat.dc1); with_reducible exact upd_same)
  | ((with_reducible apply Dat.up'); (first | (with_reducible assumption) | apply (by assumption : ∀ b, Dat b _ _ _ _)); omega)
  | ((with_reducible apply Dat.tup); (with_reducible exact upd_same); walk_at "dtl")
  | ((with_reducible apply Dat.lst); (with_reducible exact upd_same); (first | exact rfl | assumption); (first | exact rfl | assumption); walk_at "dtl")
  | ((with_reducible apply Dat.dct); with_reducible exact upd_same)
  | ((with_reducible apply Dat.new); (with_reducible assumption); walk_at "dt")
  | ((with_reducible apply Dat.same'); (with_reducible assumption); walk_at "dt")
  | ((with_reducible apply Dat.but'); (with_reducible assumption); walk_at "pl"; walk_at "dt")
  | ((with_reducible apply Dat.ofE); (with_reducible assumption); omega)
  | ((with_reducible apply Dat.leaf); (with_reducible assumption); assumption; assumption; decide; omega))
local macro_rules | `(tactic| walk_at "dtl") => `(tactic| first
  | apply DatL.nil
  | ((with_reducible apply DatL.cons); walk_at "dt"; walk_at "dtl")
  | with_reducible assumption
  | apply (by assumption : ∀ b, DatL b _ _ _ _)
  | ((with_reducible apply DatL.up'); (first | (with_reducible assumption) | apply (by assumption : ∀ b, DatL b _ _ _ _)); omega)
  | ((with_reducible apply DatL.new); (with_reducible assumption); walk_at "dtl")
  | ((with_reducible apply DatL.same'); (with_reducible assumption); walk_at "dtl")
  | ((with_reducible apply DatL.but'); (with_reducible assumption); walk_at "pl"; walk_at "dtl"))
local macro_rules | `(tactic| walk_at "al") => `(tactic| first
  | exact AllD.nil
  | ((with_reducible apply AllD.cons); walk_at "dt"; omega; walk_at "al")
  | with_reducible assumption
  | ((with_reducible apply AllD.app); walk_at "al"; walk_at "al")
  | ((with_reducible apply AllD.new); (with_reducible assumption); walk_at "al")
  | ((with_reducible apply AllD.same'); (with_reducible assumption); walk_at "al")
  | ((with_reducible apply AllD.but'); (with_reducible assumption); walk_at "pl"; walk_at "al"))
local macro_rules | `(tactic| walk_at "pt") => `(tactic| first
  | with_reducible assumption
  | ((with_reducible apply PatAt.new); (with_reducible assumption); walk_at "pt")
  | ((with_reducible apply PatAt.same'); (with_reducible assumption); walk_at "pt")
  | ((with_reducible apply PatAt.but'); (with_reducible assumption); walk_at "pl"; walk_at "pt"))
local macro_rules | `(tactic| walk_at "db") => `(tactic| first
  | with_reducible assumption
  | ((with_reducible apply DatB.new); (with_reducible assumption); walk_at "db")
  | ((with_reducible apply DatB.same'); (with_reducible assumption); walk_at "db")
  | ((with_reducible apply DatB.but'); (with_reducible assumption); walk_at "pl"; walk_at "db"))
local macro_rules | `(tactic| walk_at "dn") => `(tactic| first
  | with_reducible assumption
  | (with_reducible apply Dno.non)
  | (with_reducible apply Dno.bl)
  | ((with_reducible apply Dno.str); decide +kernel; exact rfl)
  | ((with_reducible apply Dno.int); decide)
  | ((with_reducible apply Dno.tup); (with_reducible exact upd_same); walk_at "dtl")
  | ((with_reducible apply Dno.lst); (with_reducible exact upd_same); exact rfl; exact rfl; walk_at "dtl")
  | ((with_reducible apply Dno.dct); with_reducible exact upd_same)
  | ((with_reducible apply Dno.new); (with_reducible assumption); walk_at "dn")
  | ((with_reducible apply Dno.same'); (with_reducible assumption); walk_at "dn")
  | ((with_reducible apply Dno.but'); (with_reducible assumption); walk_at "pl"; walk_at "dn"))
local macro_rules | `(tactic| walk_at "an") => `(tactic| first
  | exact AllN.nil
  | ((with_reducible apply AllN.cons); walk_at "dn"; omega; walk_at "an")
  | with_reducible assumption
  | ((with_reducible apply AllN.app); walk_at "an"; walk_at "an")
  | ((with_reducible apply AllN.new); (with_reducible assumption); walk_at "an")
  | ((with_reducible apply AllN.same'); (with_reducible assumption); walk_at "an")
  | ((with_reducible apply AllN.but'); (with_reducible assumption); walk_at "pl"; walk_at "an"))
local macro_rules | `(tactic| walk_at "st") => `(tactic| first
  | (with_reducible show ExtN _ _); (walk_at "ex")
  | (with_reducible show Tabs _ _); (walk_at "tb")
  | (with_reducible show DAll _ _ _); (walk_at "dal")
  | (with_reducible show upd _ _ _ _ = some _); (walk_at "hp")
  | (with_reducible show L2.Same _ _); (walk_at "sm")
  | (with_reducible refine And.intro ?_ ?_)
  | exact rfl
  | with_reducible assumption
  | (with_reducible show DA _ _ _); (walk_at "da")
  | (with_reducible show PoolAt _ _); (walk_at "pl")
  | (with_reducible show Dat _ _ _ _ _); (walk_at "dt")
  | (with_reducible show Fit _ _ _ _); (walk_at "ft")
  | (with_reducible show PatAt _ _ _); (walk_at "pt")
  | (with_reducible show SameBut _ _ _); (walk_at "sb")
  | (with_reducible show _ ≤ sizeLine); (first | exact len_line _ rfl | exact len_line2 _ _ rfl rfl | decide | omega | exact Nat.le_trans (m := 200000) (by omega) (by decide) | exact Nat.le_trans (m := 200000) (by simp only [List.length_cons, List.length_nil]; omega) (by decide))
  | (with_reducible first | show (_ : Int) ≤ _ | show (_ : Int) < _ | show (_ : Nat) ≤ _ | show (_ : Nat) < _); (first | omega | (simp only [List.length_append]; omega) | (simp only [List.length_cons, List.length_nil]; omega) | (simp only [List.length_append, List.length_cons, List.length_nil]; omega) | exact Int.lt_of_lt_of_le (by assumption) (by decide))
  | exact cut1_not _ _
  | exact List.cons_ne_nil _ _
  | exact fun h => absurd h (List.cons_ne_nil _ _)
  | exact fun h => (h rfl).elim
  | (with_reducible show DatB _ _ _ _); (walk_at "db")
  | (with_reducible show AllD _ _ _ _); (walk_at "al")
  | exact Or.inl ⟨rfl, _, Or.inl (Or.inl (by walk_at "hp"))⟩
  | exact fun h => absurd h.1 (Nat.ne_of_beq_eq_false rfl)
  | exact fun h => absurd h.2 (Nat.ne_of_beq_eq_false rfl)
  | exact at0 _ _
  | exact at1 _ _ _
  | (refine And.intro ?_ ?_)
  | (fail_if_success first | show (∃ _ : Nat → Nat → L2.St → Hp → Prop, _) | show (∃ _ : Nat → Nat → Hp → Prop, _) | show (∃ _ : Nat → L2.St → Hp → Prop, _) | show (∃ (_ : PyData) (_ : PyData), _) | show (∃ (_ : Addr) (_ : List V) (_ : V) (_ : Nat) (_ : V), _)); (apply Exists.intro)
  | (refine iteT' rfl ?_)
  | (refine iteF' rfl ?_)
  | walk_at "sq"
  | (with_reducible show _ = some _); (walk_at "hp")
  | intro _
  | assumption)
local macro_rules | `(tactic| walk_at "rd") => `(tactic| repeat walk_at "st")
section
variable {P : Program} {w : World} {K : PySem.W.Frag} {mg : Str → Option Value} {base : Heap} {cR PR cL PL : Addr} {Ad : Nat → Addr}
theorem g_law (T : Txt K mg) (R : Ers K mg Ad) (L : Lam K mg base cR PR cL PL) (gk : GivesX P w K mg base 1 "_law_kind" (spKind Ad)) (g_law_errors_right : Gives P w K mg base CX0 2 "_law_errors_right" spErrs) (g_law_cell : Gives P w K mg base CX0 1 "_law_cell" (spCell K)) (g_law_pool : Gives P w K mg base CX0 1 "_law_pool" spPool) (g_law_right : GivesG P w K mg base CX0 11 "_law_right" (spRightT PR PL)) (ge_operate : Gives P w K mg base (L2.CX P w) 4 "operate" (spOpE Ad)) (ge_wrap : Gives P w K mg base (L2.CX P w) 3 "wrap" (spWrapE Ad)) : GivesG P w K mg base CX0 12 "law" (spLawT K PR PL) := by
  refine givesT_fun L.tL sc_law (fun _ _ _ _ _ _ us hl => match us, hl with | [_], _ => rfl) (fun vs H Q E h => ?_) (fun f A outer s H vs Q E hgd hr h => ?_)
  · obtain ⟨a, ns, rfl, _⟩ := h
    rfl
  · obtain ⟨a, ns, rfl, hS, hl, hT, q⟩ := h
    refine ⟨_, (pss_cons (ps_if (pt_not (pt_val (pe_own0 g_law_errors_right (hr.mono (by decide)) (by rfl) pass0))) (pss_one (ps_ret pe_bl)) pss_nil)
      (pss_cons (ps_for PassesOwn.never rfl (pi_list (pe_lst (pa_cons (pe_tup (pa_cons (pe_lst (pa_cons pe_int (pa_cons pe_int pa_nil))) (pa_cons pe_str pa_nil))) (pa_cons (pe_tup (pa_cons (pe_lst (pa_cons pe_int (pa_cons pe_bl pa_nil))) (pa_cons pe_str pa_nil))) (pa_cons (pe_tup (pa_cons (pe_lst (pa_cons pe_bl (pa_cons pe_int pa_nil))) (pa_cons pe_str pa_nil))) (pa_cons (pe_tup (pa_cons (pe_lst (pa_cons pe_int (pa_cons pe_int pa_nil))) (pa_cons pe_str pa_nil))) (pa_cons (pe_tup (pa_cons (pe_lst (pa_cons pe_int (pa_cons pe_bl pa_nil))) (pa_cons pe_str pa_nil))) pa_nil))))))) (pg_tup (by rfl) (pgs_cons (pg_name (i := 1) sc_law.nd rfl (Or.inr rfl)) (pgs_cons (pg_name (i := 2) sc_law.nd rfl (Or.inl rfl)) pgs_nil))) (pss_one (ps_if (pt_cmpR (op_neD (units64 hr)) (pe_lamOf (T := Ts PR PL) (k := 8) (by rfl) T.d_law_caught sc_law_caught (fun _ _ _ _ _ _ us hl => match us, hl with | [_], _ => rfl) rfl (by exact .inl (by decide +kernel)) (fun g cdg => caught_gives T R gk hgd (hr.mono (by decide))) L.bL rfl Ts_L (Ts_uL L.ne) (hr.mono (by decide)) (lamS_by (sc := defScope s_law) (by decide +kernel)) rfl (fun _ _ _ _ _ => rfl) (fun A2 outer2 s2 H2 E2 f2 c2 hr => (pe_own ge_operate (hr.mono (by decide)) (by rfl) (passX rfl rfl rfl rfl) (pa_cons pe_str (pa_cons (pe_ix (ixK (K := K) rfl) (pv 1) pe_int (fun _ _ => rfl)) (pa_cons (pe_ix (ixK (K := K) rfl) (pv 1) pe_int (fun _ _ => rfl)) pa_nil)))))) (pe_ix ix_list (pe_lst (pa_cons (pe_lst (pa_cons pe_str (pa_cons pe_str pa_nil))) (pa_cons (pe_lst (pa_cons pe_int (pa_cons (pv 2) pa_nil))) pa_nil))) (pe_callTy call_int1 (by rfl) T.n_int (by decide +kernel) (pa_cons (pe_cmpR op_ne (pv 2) pe_str (nomark _)) pa_nil)) (fun _ _ => rfl)) (nomark _)) (pss_one (ps_ret pe_bl)) pss_nil)))
      (pss_cons (ps_for PassesOwn.never rfl (pi_list (pe_lst (pa_cons (pe_tup (pa_cons pe_int (pa_cons (pe_lst (pa_cons pe_str (pa_cons pe_str pa_nil))) pa_nil))) (pa_cons (pe_tup (pa_cons pe_bl (pa_cons (pe_lst (pa_cons pe_int (pa_cons pe_str pa_nil))) pa_nil))) (pa_cons (pe_tup (pa_cons pe_int (pa_cons (pe_lst (pa_cons pe_str (pa_cons pe_str pa_nil))) pa_nil))) (pa_cons (pe_tup (pa_cons pe_bl (pa_cons (pe_lst (pa_cons pe_int (pa_cons pe_str pa_nil))) pa_nil))) pa_nil)))))) (pg_tup (by rfl) (pgs_cons (pg_name (i := 3) sc_law.nd rfl (Or.inr rfl)) (pgs_cons (pg_name (i := 2) sc_law.nd rfl (Or.inl rfl)) pgs_nil))) (pss_one (ps_if (pt_cmpR (op_neD (units64 hr)) (pe_lamOf (T := Ts PR PL) (k := 8) (by rfl) T.d_law_caught sc_law_caught (fun _ _ _ _ _ _ us hl => match us, hl with | [_], _ => rfl) rfl (by exact .inl (by decide +kernel)) (fun g cdg => caught_gives T R gk hgd (hr.mono (by decide))) L.bL rfl Ts_L (Ts_uL L.ne) (hr.mono (by decide)) (lamS_by (sc := defScope s_law) (by decide +kernel)) rfl (fun _ _ _ _ _ => rfl) (fun A2 outer2 s2 H2 E2 f2 c2 hr => (pe_own ge_wrap (hr.mono (by decide)) (by rfl) (passX rfl rfl rfl rfl) (pa_cons (pv 3) pa_nil)))) (pv 2) (nomark _)) (pss_one (ps_ret pe_bl)) pss_nil)))
      (pss_one (ps_ret (pe_callB (cr_all rfl) (by rfl) T.n_all (by decide +kernel) (pa_cons (pe_lc (own := [("_law_k", 4)]) rfl sc_law.nd (pi_range1 (by rfl) T.n_range (pa_cons (pe_callB (call_max2 rfl) (by rfl) T.n_max (by decide +kernel) (pa_cons pe_int (pa_cons (pe_callB (call_min2 rfl) (by rfl) T.n_min (by decide +kernel) (pa_cons (pe_callB call_len_seq (by rfl) T.n_len (by decide +kernel) (pa_cons (pv 0) pa_nil)) (pa_cons pe_int pa_nil))) pa_nil))) pa_nil)) (blkOk_by (N := ["_law_script", "_law_given", "_law_due_here", "_law_whole", "_law_k"]) (sc := defScope s_law) (by decide +kernel)) (fun _ _ _ _ _ => (pg_name (i := 4) sc_law.nd rfl (Or.inl rfl))) (fun _ _ _ _ _ => pts_nil) (fun _ _ _ _ _ => (pe_ownG g_law_right hgd (hr.mono (by decide)) (by rfl) pass0 (pa_cons (pe_own g_law_pool (hr.mono (by decide)) (by rfl) pass0 (pa_cons (pe_own g_law_cell (hr.mono (by decide)) (by rfl) pass0 (pa_cons (pv 0) (pa_cons (pv 4) pa_nil))) pa_nil)) pa_nil)))) pa_nil))))))), ?_⟩
    refine seq_then (fun σ' H' => σ' = [some (.ref a), none, none, none, none] ∧ ExtN H H' ∧ Tabs (Ts PR PL) H') ?_ (fun U hU => ?_)
    rotate_left
    · walk_at "rd"
      exact hU _ _ ⟨rfl, by walk_at "ex", by walk_at "tb"⟩
    rintro σ' H1 ⟨rfl, s1, t1⟩
    refine seq_then (fun σ' H' => ∃ y1 y2, σ' = [some (.ref a), y1, y2, none, none] ∧ ExtN H H' ∧ Tabs (Ts PR PL) H') ?_ (fun U hU => ?_)
    rotate_left
    · walk_at "rd"
      · exact ⟨_, .inl (.inl upd_same)⟩
      rename_i q1 m1 p1 n1 q2 m2 p2 n2 q3 m3 p3 n3 q4 m4 p4 n4 q5 m5 p5 n5 l nl
      refine for_list (xs := [V.ref p1, .ref p2, .ref p3, .ref p4, .ref p5]) (fun i σ H' => ∃ y1 y2, σ = [some (.ref a), y1, y2, none, none] ∧ ExtN H H' ∧ Tabs (Ts PR PL) H' ∧ H' l = some (.lst [V.ref p1, .ref p2, .ref p3, .ref p4, .ref p5]) ∧ ∀ y ∈ [V.ref p1, .ref p2, .ref p3, .ref p4, .ref p5], P5 H' y) ⟨_, _, rfl, by walk_at "ex", by walk_at "tb", upd_same, ?_⟩ (fun i σ H' _ hI => ?_) (fun i x σ H' hx hI => ?_) (fun σ H' hI => ?_)
      · refine all_cons ?_ (all_cons ?_ (all_cons ?_ (all_cons ?_ (all_cons ?_ all_nil))))
        · exact ⟨_, _, _, _, _, _, _, rfl, by walk_at "hp", by walk_at "hp", .int _, .int _, .inl ⟨rfl, by rfl⟩⟩
        · exact ⟨_, _, _, _, _, _, _, rfl, by walk_at "hp", by walk_at "hp", .int _, .bl _, .inr ⟨by decide +kernel, 1, by rfl, by decide +kernel⟩⟩
        · exact ⟨_, _, _, _, _, _, _, rfl, by walk_at "hp", by walk_at "hp", .bl _, .int _, .inr ⟨by decide +kernel, 0, by rfl, by decide +kernel⟩⟩
        · exact ⟨_, _, _, _, _, _, _, rfl, by walk_at "hp", by walk_at "hp", .int _, .int _, .inl ⟨rfl, by rfl⟩⟩
        · exact ⟨_, _, _, _, _, _, _, rfl, by walk_at "hp", by walk_at "hp", .int _, .bl _, .inr ⟨by decide +kernel, 1, by rfl, by decide +kernel⟩⟩
      · obtain ⟨_, _, _, _, _, e, _⟩ := hI
        exact .inl (.inl e)
      · obtain ⟨y1, y2, rfl, s2, t2, hl2, hp2⟩ := hI
        obtain ⟨t, g, va, vb, da, db, s5, rfl, ht, hg, ha, hb, hc⟩ := hp2 x (List.mem_of_getElem? hx)
        clear nl m1 n1 m2 n2 m3 n3 m4 n4 m5 n5
        have hof := out_fit (gs := [da, db]) (fit_name .add) (by show 2 ≤ 4; decide)
        rcases hc with ⟨rfl, e5⟩ | ⟨ne, i5, e5, rfl⟩
        · refine g_hide fun U hU => ?_
          walk_at "rd"
          rw [e5]
          refine caught_ends' (o := .ret) rfl rfl (fun _ _ z => nomatch z) (fun H2 l2 sA nA eA => ?_)
          walk_at "rd"
          refine .inr ⟨_, rfl, ?_⟩
          refine ⟨_, _, 0, _, rfl, rfl, .inl (.inl upd_same), rfl, ?_⟩
          refine due_ne (o := .ret) (due_shaped (fun _ _ z => nomatch z)) (by walk_at "hp") (by show _ = some (HO.lst [V.str "none", V.str ""]); walk_at "hp") ?_
          walk_at "rd"
          exact hU _ _ ⟨_, _, rfl, by walk_at "ex", by walk_at "tb", by walk_at "hp", fun y hy => (hp2 y hy).ext (by walk_at "ex")⟩
        · have hof' : ∀ k d, Outc.err 2 (.int i5) = .err k d → k < 3 ∧ ∃ b n, Fit b n 100 d ∧ n ≤ 200000 := by
            rw [← e5]
            exact hof
          refine g_hide fun U hU => ?_
          walk_at "rd"
          rw [e5]
          refine caught_ends' rfl rfl hof' (fun H2 l2 sA nA eA => ?_)
          walk_at "rd"
          refine .inr ⟨_, rfl, ?_⟩
          refine ⟨_, _, 1, _, rfl, congrArg V.int (if_pos ne), .inl (.inl upd_same), rfl, ?_⟩
          refine due_ne (o := .err 2 (.int i5)) (due_shaped hof') (by walk_at "hp") (by show _ = some (HO.lst [V.int 2, V.str (PyData.int i5).shown]); walk_at "hp") ?_
          walk_at "rd"
          exact hU _ _ ⟨_, _, rfl, by walk_at "ex", by walk_at "tb", by walk_at "hp", fun y hy => (hp2 y hy).ext (by walk_at "ex")⟩
      · obtain ⟨y1, y2, e, s2, t2, _⟩ := hI
        exact hU _ _ ⟨y1, y2, e, s2, t2⟩
    rintro σ' H2 ⟨y1, y2, rfl, s2, t2⟩
    refine seq_then (fun σ' H' => ∃ y1 y2 y3, σ' = [some (.ref a), y1, y2, y3, none] ∧ ExtN H H' ∧ Tabs (Ts PR PL) H') ?_ (fun U hU => ?_)
    rotate_left
    · walk_at "rd"
      · exact ⟨_, .inl (.inl upd_same)⟩
      rename_i q1 m1 p1 n1 q2 m2 p2 n2 q3 m3 p3 n3 q4 m4 p4 n4 l nl
      refine for_list (xs := [V.ref p1, .ref p2, .ref p3, .ref p4]) (fun i σ H' => ∃ y1 y2 y3, σ = [some (.ref a), y1, y2, y3, none] ∧ ExtN H H' ∧ Tabs (Ts PR PL) H' ∧ H' l = some (.lst [V.ref p1, .ref p2, .ref p3, .ref p4]) ∧ ∀ y ∈ [V.ref p1, .ref p2, .ref p3, .ref p4], P4 H' y) ⟨_, _, _, rfl, by walk_at "ex", by walk_at "tb", upd_same, ?_⟩ (fun i σ H' _ hI => ?_) (fun i x σ H' hx hI => ?_) (fun σ H' hI => ?_)
      · refine all_cons ?_ (all_cons ?_ (all_cons ?_ (all_cons ?_ all_nil)))
        · exact ⟨_, _, _, .int 1, rfl, by walk_at "hp", .int _, Fit.int' (by decide), by show _ = some (HO.lst [V.str "none", V.str ""]); walk_at "hp"⟩
        · exact ⟨_, _, _, .bool true, rfl, by walk_at "hp", .bl _, Fit.bl'.mono (by decide) (Nat.le_refl _), by show _ = some (HO.lst [V.int 0, V.str "True"]); walk_at "hp"⟩
        · exact ⟨_, _, _, .int 0, rfl, by walk_at "hp", .int _, Fit.int' (by decide), by show _ = some (HO.lst [V.str "none", V.str ""]); walk_at "hp"⟩
        · exact ⟨_, _, _, .bool false, rfl, by walk_at "hp", .bl _, Fit.bl'.mono (by decide) (Nat.le_refl _), by show _ = some (HO.lst [V.int 0, V.str "False"]); walk_at "hp"⟩
      · obtain ⟨_, _, _, _, _, _, e, _⟩ := hI
        exact .inl (.inl e)
      · obtain ⟨y1, y2, y3, rfl, s2, t2, hl2, hp2⟩ := hI
        obtain ⟨t, g, v, d, rfl, ht, hv, hfv, hg⟩ := hp2 x (List.mem_of_getElem? hx)
        clear nl m1 n1 m2 n2 m3 n3 m4 n4
        have hof := wrap_fit hfv
        refine g_hide fun U hU => ?_
        walk_at "rd"
        refine caught_ends' rfl rfl hof (fun H2 l2 sA nA eA => ?_)
        walk_at "rd"
        refine due_ne (due_shaped hof) (by walk_at "hp") (by walk_at "hp") ?_
        walk_at "rd"
        exact hU _ _ ⟨_, _, _, rfl, by walk_at "ex", by walk_at "tb", by walk_at "hp", fun y hy => (hp2 y hy).ext (by walk_at "ex")⟩
      · obtain ⟨y1, y2, y3, e, s2, t2, _⟩ := hI
        exact hU _ _ ⟨y1, y2, y3, e, s2, t2⟩
    rintro σ' H3 ⟨y1, y2, y3, rfl, s3, t3⟩
    have hS3 := sql_ext s3 hS
    have hlen : (((ns.map V.int).length : Nat) : Int) = (ns.length : Int) := by rw [List.length_map]
    refine ⟨_, rfl, a, _, rfl, .inl hS3, _, _, rfl, _, _, rfl, _, rfl, by rw [hlen]; split <;> split <;> omega, by rw [hlen]; split <;> split <;> omega, fun D nD => ?_⟩
    refine lc_range (fun i H' => ExtN H H' ∧ Tabs (Ts PR PL) H' ∧ H' D = some (.lst ((List.replicate i true).map V.bl))) ⟨by walk_at "ex", by walk_at "tb", upd_same⟩ (fun i H' hi hI => ?_) (fun H' hI => ?_)
    · obtain ⟨sm, tm, hD⟩ := hI
      have hi63 : i < 1000 := by
        have h2 := hi
        rw [hlen] at h2
        split at h2 <;> split at h2 <;> omega
      refine ⟨rfl, ⟨_, rfl, _, rfl, a, ns, _, rfl, sql_ext sm hS, hl, by omega, by omega, fun H1' r s1' => ⟨r, rfl, fun H2' p s2' np P2 => ⟨p, rfl, P2, Tabs.same s2' (Tabs.same s1' tm), fun H3' k3 P3 t3' => ?_⟩⟩⟩⟩
      have hD2 : H2' D = some (.lst ((List.replicate i true).map V.bl)) := s2' _ _ (s1' _ _ hD)
      have nDp : D ≠ p := ne_of_none (s1' _ _ hD) np
      have hD3 : H3' D = some (.lst ((List.replicate i true).map V.bl)) := k3 _ _ nDp (fun _ z => nomatch z) hD2
      have e3 : ExtN H H3' := keep_ext (ex_same s1' sm) np (ex_same s2' (ex_same s1' sm)) k3
      refine ⟨_, hD3, by rw [List.length_map, List.length_replicate]; exact Nat.lt_of_lt_of_le hi63 (by decide), ex_over s3 nD e3, Tabs.over hD3 t3', ?_⟩
      rw [upd_same, List.replicate_succ', List.map_append]
      rfl
    · obtain ⟨sm, tm, hD⟩ := hI
      exact ⟨D, _, rfl, .inl (.inl hD), bl_cast (by simp) (q _)⟩
end
end Cb
end

section
set_option maxRecDepth 100000
set_option maxHeartbeats 4000000
namespace Cb
open PySem PySem.Spec PyProof.Rows L2 LamX
section
variable {P : Program} {w : World} {K : PySem.W.Frag} {mg : Str → Option Value} {base : Heap}
theorem standsT_mk {x : Str} {h : Heap} {st : Stmt} {f c : Addr} {od an : Option Addr} {sl : Array (Option Value)} {oc kV dc pm ct : Value} (X : K.In h) (G : h.Ns mainGlobals mg) (a : PySem.W.nsIn K mainGlobals x = some (some (.ref f)))
    (l : K.lookup f = some ⟨oc, od, .func (PySem.W.fnOf x x (defArgs st) (defBody st) (defScope st) .none kV dc pm an (.ref c) ct), sl⟩) (c' : PySem.W.codeIn K (.ref c) x = true) (k : PySem.W.keepIn K (.ref f) = true) : StandsT K mg x st c :=
  ⟨f, oc, od, kV, dc, pm, an, ct, sl, PySem.W.mg_of X G a, l, c', k⟩
def adOf (a0 a1 a2 a3 a4 a5 a6 a7 a8 a9 a10 a11 a12 a13 a14 a15 a16 a17 a18 a19 a20 a21 a22 a23 a24 : Addr) : Nat → Addr
  | 0 => a0
  | 1 => a1
  | 2 => a2
  | 3 => a3
  | 4 => a4
  | 5 => a5
  | 6 => a6
  | 7 => a7
  | 8 => a8
  | 9 => a9
  | 10 => a10
  | 11 => a11
  | 12 => a12
  | 13 => a13
  | 14 => a14
  | 15 => a15
  | 16 => a16
  | 17 => a17
  | 18 => a18
  | 19 => a19
  | 20 => a20
  | 21 => a21
  | 22 => a22
  | 23 => a23
  | 24 => a24
  | _ => 0
def kitsB (K : PySem.W.Frag) (as : List Addr) (f : PySem.W.Frag → Value → Value → Option Bool) : Bool := (List.range 3).all fun k => (List.range 25).all fun j => decide (f K (.ref (as.getD (k + 1) 0)) (.ref (as.getD j 0)) = some (decide (j = 0 ∨ j = k + 1)))
theorem kitsB_at {as : List Addr} {f : PySem.W.Frag → Value → Value → Option Bool} (h : kitsB K as f = true) : ∀ k, k < 3 → ∀ j, j < 25 → f K (.ref (as.getD (k + 1) 0)) (.ref (as.getD j 0)) = some (decide (j = 0 ∨ j = k + 1)) := fun k hk j hj => by
  have h1 := List.all_eq_true.mp h k (List.mem_range.mpr hk)
  exact of_decide_eq_true (List.all_eq_true.mp h1 j (List.mem_range.mpr hj))
theorem adOf_at (a0 a1 a2 a3 a4 a5 a6 a7 a8 a9 a10 a11 a12 a13 a14 a15 a16 a17 a18 a19 a20 a21 a22 a23 a24 : Addr) : ∀ j, j < 25 → [a0, a1, a2, a3, a4, a5, a6, a7, a8, a9, a10, a11, a12, a13, a14, a15, a16, a17, a18, a19, a20, a21, a22, a23, a24].getD j 0 = adOf a0 a1 a2 a3 a4 a5 a6 a7 a8 a9 a10 a11 a12 a13 a14 a15 a16 a17 a18 a19 a20 a21 a22 a23 a24 j := fun j hj => by
  have := hj
  match j, hj with
  | 0, _ => rfl
  | 1, _ => rfl
  | 2, _ => rfl
  | 3, _ => rfl
  | 4, _ => rfl
  | 5, _ => rfl
  | 6, _ => rfl
  | 7, _ => rfl
  | 8, _ => rfl
  | 9, _ => rfl
  | 10, _ => rfl
  | 11, _ => rfl
  | 12, _ => rfl
  | 13, _ => rfl
  | 14, _ => rfl
  | 15, _ => rfl
  | 16, _ => rfl
  | 17, _ => rfl
  | 18, _ => rfl
  | 19, _ => rfl
  | 20, _ => rfl
  | 21, _ => rfl
  | 22, _ => rfl
  | 23, _ => rfl
  | 24, _ => rfl
  | j + 25, hj => exact absurd hj (by omega)
theorem ers_mk {h : Heap} {a0 a1 a2 a3 a4 a5 a6 a7 a8 a9 a10 a11 a12 a13 a14 a15 a16 a17 a18 a19 a20 a21 a22 a23 a24 : Addr} (X : K.In h) (G : h.Ns mainGlobals mg) (g0 : PySem.W.nsIn K mainGlobals "FormError" = some (some (.ref a0))) (g1 : PySem.W.nsIn K mainGlobals "InvalidNumber" = some (some (.ref a1))) (e1 : ErrTxt K mg bVE "InvalidNumber" a1) (i1 : ∃ fI, Init1 K a1 fI "InvalidNumber.__init__" "value") (g2 : PySem.W.nsIn K mainGlobals "InvalidOperation" = some (some (.ref a2))) (e2 : ErrTxt K mg bVE "InvalidOperation" a2) (i2 : ∃ fI, Init1 K a2 fI "InvalidOperation.__init__" "value") (g3 : PySem.W.nsIn K mainGlobals "InvalidWords" = some (some (.ref a3))) (e3 : ErrTxt K mg bVE "InvalidWords" a3) (i3 : ∃ fI, Init1 K a3 fI "InvalidWords.__init__" "index") (g4 : PySem.W.nsIn K mainGlobals "InvalidFuel" = some (some (.ref a4))) (e4 : ErrTxt K mg bVE "InvalidFuel" a4) (i4 : ∃ fI, Init1 K a4 fI "InvalidFuel.__init__" "value") (g5 : PySem.W.nsIn K mainGlobals "InvalidSource" = some (some (.ref a5))) (e5 : ErrTxt K mg bVE "InvalidSource" a5) (i5 : ∃ fI, Init1 K a5 fI "InvalidSource.__init__" "value") (g6 : PySem.W.nsIn K mainGlobals "InvalidCode" = some (some (.ref a6))) (e6 : ErrTxt K mg bVE "InvalidCode" a6) (i6 : ∃ fI, Init1 K a6 fI "InvalidCode.__init__" "value") (g7 : PySem.W.nsIn K mainGlobals "InvalidGraph" = some (some (.ref a7))) (e7 : ErrTxt K mg bVE "InvalidGraph" a7) (i7 : ∃ fI, Init1 K a7 fI "InvalidGraph.__init__" "value") (g8 : PySem.W.nsIn K mainGlobals "InvalidPattern" = some (some (.ref a8))) (e8 : ErrTxt K mg bVE "InvalidPattern" a8) (i8 : ∃ fI, Init1 K a8 fI "InvalidPattern.__init__" "value") (g9 : PySem.W.nsIn K mainGlobals "InvalidText" = some (some (.ref a9))) (e9 : ErrTxt K mg bVE "InvalidText" a9) (i9 : ∃ fI, Init1 K a9 fI "InvalidText.__init__" "line") (g10 : PySem.W.nsIn K mainGlobals "InvalidTries" = some (some (.ref a10))) (e10 : ErrTxt K mg bVE "InvalidTries" a10) (i10 : ∃ fI, Init1 K a10 fI "InvalidTries.__init__" "value") (g11 : PySem.W.nsIn K mainGlobals "InvalidTimes" = some (some (.ref a11))) (e11 : ErrTxt K mg bVE "InvalidTimes" a11) (i11 : ∃ fI, Init1 K a11 fI "InvalidTimes.__init__" "value") (g12 : PySem.W.nsIn K mainGlobals "InvalidEdits" = some (some (.ref a12))) (e12 : ErrTxt K mg bVE "InvalidEdits" a12) (i12 : ∃ fI, Init1 K a12 fI "InvalidEdits.__init__" "index") (g13 : PySem.W.nsIn K mainGlobals "InvalidLine" = some (some (.ref a13))) (e13 : ErrTxt K mg bVE "InvalidLine" a13) (i13 : ∃ fI, Init1 K a13 fI "InvalidLine.__init__" "value") (g14 : PySem.W.nsIn K mainGlobals "Unsound" = some (some (.ref a14))) (e14 : ErrTxt K mg bVE "Unsound" a14) (i14 : ∃ fI, Init2 K a14 fI "Unsound.__init__") (g15 : PySem.W.nsIn K mainGlobals "FindError" = some (some (.ref a15))) (g16 : PySem.W.nsIn K mainGlobals "UnknownFunction" = some (some (.ref a16))) (e16 : ErrTxt K mg bLE "UnknownFunction" a16) (i16 : ∃ fI, Init1 K a16 fI "UnknownFunction.__init__" "value") (g17 : PySem.W.nsIn K mainGlobals "StillCalled" = some (some (.ref a17))) (e17 : ErrTxt K mg bLE "StillCalled" a17) (i17 : ∃ fI, Init1 K a17 fI "StillCalled.__init__" "function") (g18 : PySem.W.nsIn K mainGlobals "LastFunction" = some (some (.ref a18))) (e18 : ErrTxt K mg bLE "LastFunction" a18) (i18 : ∃ fI, Init1 K a18 fI "LastFunction.__init__" "function") (g19 : PySem.W.nsIn K mainGlobals "Tangled" = some (some (.ref a19))) (e19 : ErrTxt K mg bLE "Tangled" a19) (i19 : ∃ fI, Init1 K a19 fI "Tangled.__init__" "function") (g20 : PySem.W.nsIn K mainGlobals "NothingToUndo" = some (some (.ref a20))) (g21 : PySem.W.nsIn K mainGlobals "LimitError" = some (some (.ref a21))) (g22 : PySem.W.nsIn K mainGlobals "TooLarge" = some (some (.ref a22))) (e22 : ErrTxt K mg bAE "TooLarge" a22) (i22 : ∃ fI, Init1 K a22 fI "TooLarge.__init__" "function") (g23 : PySem.W.nsIn K mainGlobals "TooManyFunctions" = some (some (.ref a23))) (e23 : ErrTxt K mg bAE "TooManyFunctions" a23) (i23 : ∃ fI, Init1 K a23 fI "TooManyFunctions.__init__" "count") (g24 : PySem.W.nsIn K mainGlobals "TooManyEdits" = some (some (.ref a24))) (e24 : ErrTxt K mg bAE "TooManyEdits" a24) (i24 : ∃ fI, Init1 K a24 fI "TooManyEdits.__init__" "count")
    (kt : kitsB K [a0, a1, a2, a3, a4, a5, a6, a7, a8, a9, a10, a11, a12, a13, a14, a15, a16, a17, a18, a19, a20, a21, a22, a23, a24] PySem.W.kitOne = true) (ex : kitsB K [a0, a1, a2, a3, a4, a5, a6, a7, a8, a9, a10, a11, a12, a13, a14, a15, a16, a17, a18, a19, a20, a21, a22, a23, a24] PySem.W.exmOne = true)
    (kv1 : PySem.W.kitOne K (.ref a1) (.type "ValueError") = some true) (kv2 : PySem.W.kitOne K (.ref a2) (.type "ValueError") = some true) (kv3 : PySem.W.kitOne K (.ref a3) (.type "ValueError") = some true)
    (kl1 : PySem.W.kitOne K (.ref a1) (.type "LookupError") = some false) (kl2 : PySem.W.kitOne K (.ref a2) (.type "LookupError") = some false) (kl3 : PySem.W.kitOne K (.ref a3) (.type "LookupError") = some false)
    (ka1 : PySem.W.kitOne K (.ref a1) (.type "ArithmeticError") = some false) (ka2 : PySem.W.kitOne K (.ref a2) (.type "ArithmeticError") = some false) (ka3 : PySem.W.kitOne K (.ref a3) (.type "ArithmeticError") = some false)
    (c1 : IsC K a1) (c2 : IsC K a2) (c3 : IsC K a3) (cN : IsC K a20) (xN : PySem.W.excIn K a20 bLE.tl bLE.newId = true) (pN : PySem.W.keepIn K (.ref a20) = true) (kN : PySem.W.kitOne K (.ref a20) (.ref a15) = some true) : Ers K mg (adOf a0 a1 a2 a3 a4 a5 a6 a7 a8 a9 a10 a11 a12 a13 a14 a15 a16 a17 a18 a19 a20 a21 a22 a23 a24) := by
  refine ⟨PySem.W.mg_of X G g0, PySem.W.mg_of X G g1, e1, i1, PySem.W.mg_of X G g2, e2, i2, PySem.W.mg_of X G g3, e3, i3, PySem.W.mg_of X G g4, e4, i4, PySem.W.mg_of X G g5, e5, i5, PySem.W.mg_of X G g6, e6, i6, PySem.W.mg_of X G g7, e7, i7, PySem.W.mg_of X G g8, e8, i8, PySem.W.mg_of X G g9, e9, i9, PySem.W.mg_of X G g10, e10, i10, PySem.W.mg_of X G g11, e11, i11, PySem.W.mg_of X G g12, e12, i12, PySem.W.mg_of X G g13, e13, i13, PySem.W.mg_of X G g14, e14, i14, PySem.W.mg_of X G g15, PySem.W.mg_of X G g16, e16, i16, PySem.W.mg_of X G g17, e17, i17, PySem.W.mg_of X G g18, e18, i18, PySem.W.mg_of X G g19, e19, i19, PySem.W.mg_of X G g20, PySem.W.mg_of X G g21, PySem.W.mg_of X G g22, e22, i22, PySem.W.mg_of X G g23, e23, i23, PySem.W.mg_of X G g24, e24, i24, ?_, ?_, ?_, ?_, ?_, ?_, cN, xN, pN, kN⟩
  · intro k hk j hj
    rw [← adOf_at _ _ _ _ _ _ _ _ _ _ _ _ _ _ _ _ _ _ _ _ _ _ _ _ _ j hj, ← adOf_at _ _ _ _ _ _ _ _ _ _ _ _ _ _ _ _ _ _ _ _ _ _ _ _ _ (k + 1) (by omega)]
    exact kitsB_at kt k hk j hj
  · intro k hk
    rcases lt3 hk with e | e | e <;> subst e
    · exact kv1
    · exact kv2
    · exact kv3
  · intro k hk
    rcases lt3 hk with e | e | e <;> subst e
    · exact kl1
    · exact kl2
    · exact kl3
  · intro k hk
    rcases lt3 hk with e | e | e <;> subst e
    · exact ka1
    · exact ka2
    · exact ka3
  · intro k hk j hj
    rw [← adOf_at _ _ _ _ _ _ _ _ _ _ _ _ _ _ _ _ _ _ _ _ _ _ _ _ _ j hj, ← adOf_at _ _ _ _ _ _ _ _ _ _ _ _ _ _ _ _ _ _ _ _ _ _ _ _ _ (k + 1) (by omega)]
    exact kitsB_at ex k hk j hj
  · intro k hk
    rcases lt3 hk with e | e | e <;> subst e
    · exact c1
    · exact c2
    · exact c3

theorem fin {mg : Str → Option Value} {fa cR PR cL PL : Addr} {h : Heap} {Ad : Nat → Addr} (T : Txt K mg) (R : Ers K mg Ad) (tR : StandsT K mg "_law_right" s_law_right cR) (tL : StandsT K mg "law" s_law cL) (ne : PR ≠ PL) (hmg : mg "law" = some (.ref fa)) :
    ∀ base : Heap, K.In base → base.Ns mainGlobals mg → TabB base mg cR PR → TabB base mg cL PL → FnG P w K mg base L2.CX0 12 fa (spLawT K PR PL) := by
  intro base _ _ bR bL
  have LL : Lam K mg base cR PR cL PL := ⟨tR, tL, bR, bL, ne⟩
  have i1 := g_is_integer (P := P) (w := w) (base := base) T
  have i2 := g_is_word T i1
  have i3 := g_wrapped (P := P) (w := w) (base := base) T
  have i4 := g_quotient_of (P := P) (w := w) (base := base) T
  have i5 := g_compared (P := P) (w := w) (base := base) T
  have i6 := g_bits_of T i3
  have i7 := g_result_of T i3 i4 i5 i6
  have i8 := g_wrap T i3 i1
  have i9 := g_operate T i2 i7
  have d1 := gd_is_integer (P := P) (w := w) (base := base) T
  have d2 := gd_is_word T d1
  have w1 := ge_wrap T R d1 i3
  have w2 := gek_wrap T R d1 i3
  have o1 := ge_operate (ge_operateB T R d2 i7)
  have q1 := ge_law_asked T R o1
  have j1 := g_law_cell (P := P) (w := w) (base := base) T
  have j2 := g_law_pool (P := P) (w := w) (base := base) T
  have j3 := g_law_draw (P := P) (w := w) (base := base) T
  have j4 := g_law_figure T j3
  have j5 := g_law_fit (P := P) (w := w) (base := base) T
  have j6 := g_law_split (P := P) (w := w) (base := base) T
  have j7 := g_law_do T j5 j6
  have y1 := g_law_way T j3
  have y2 := g_law_odd T j3
  have y3 := g_law_no_way T j3
  have y4 := g_law_due T (g_law_is_word (P := P) (w := w) (base := base) T)
  have gk := gx_law_kind (P := P) (w := w) (base := base) T R
  have r := g_law_right T R LL gk j3 j4 y1 y2 y3 y4 i9 i8 j7 j5 q1 w1 w2
  obtain ⟨f, hm, hk, F⟩ := g_law T R LL gk (g_law_errors_right (P := P) (w := w) (base := base) T R) j1 j2 r o1 w1
  have e : f = fa := by
    have e2 := hm.symm.trans hmg
    injection e2 with e3
    injection e3
  subst e
  exact F
theorem lawGT {l : PySem.W.OpenLaw} {fa cR PR cL PL : Addr} {h : Heap} {odR odL : Option Addr} {vR vL : Array Value} {slR slL : Array (Option Value)} (xR : K.lookup cR = some ⟨.type "code", odR, .fields vR, slR⟩) (pR : vR[11]? = some (.ref PR)) (xL : K.lookup cL = some ⟨.type "code", odL, .fields vL, slL⟩) (pL : vL[11]? = some (.ref PL)) (tR : h.get? PR = some (PySem.W.tabObj #[])) (tL : h.get? PL = some (PySem.W.tabObj #[])) (nR : K.lookup PR = none) (nL : K.lookup PL = none) (cdR : PySem.W.CodeHd h cR PR) (cdL : PySem.W.CodeHd h cL PL)
    (F : ∀ base : Heap, K.In base → base.Ns mainGlobals mg → TabB base mg cR PR → TabB base mg cL PL → FnG l.prog w K mg base L2.CX0 12 fa (spLawT K PR PL)) : LawGT l w K L2.CX0 12 63 mg fa h := by
  have two : ∀ {p : Addr × Addr → Prop}, p (cR, PR) → p (cL, PL) → ∀ q ∈ [(cR, PR), (cL, PL)], p q := fun h1 h2 q hq => by
    rcases List.mem_cons.mp hq with z | z
    · rw [z]
      exact h1
    · rw [List.mem_singleton.mp z]
      exact h2
  refine ⟨[(cR, PR), (cL, PL)], spLawT K PR PL, two tR tL, two nR nL, two cdR cdL, fun H a ns hl _ hT hS => ⟨a, ns, rfl, hS, hl, fun p hp => ?_, fun _ => rfl⟩, fun base b1 b2 b3 => F base b1 b2 (b3 (cR, PR) List.mem_cons_self) (b3 (cL, PL) (List.mem_cons_of_mem _ List.mem_cons_self))⟩
  have hp' : p ∈ [(PR, qLam "_law_right"), (PL, qLam "law")] := hp
  rcases List.mem_cons.mp hp' with z | z
  · rw [z]
    exact TabS.nil (hT (cR, PR) List.mem_cons_self)
  · rw [List.mem_singleton.mp z]
    exact TabS.nil (hT (cL, PL) (List.mem_cons_of_mem _ List.mem_cons_self))
end
end Cb

end
open PySem PySem.W PyProof.Rows
set_option maxRecDepth 100000 in
set_option maxHeartbeats 0 in
theorem PySem.Challenge.cw_codeback_k02_numbers_and_operations_refu_holds : PySem.Challenge.rw_codeback_k02_numbers_and_operations_refu.Holds := by
  w_on; o_law; k_head; (case hw => w_witness2)
  k_fill
  refine Cb.walk_ofGT (l := PySem.Challenge.rw_codeback_k02_numbers_and_operations_refu) (n := 63) (k := 12) (CX := fun _ => L2.CX0) rfl (by decide) rfl ⟨rfl, by decide, by decide⟩ (fun w h Y => PySem.W.km_in_of Y) ?F (fun _ _ _ _ _ h => h)
  case F =>
    intro w mg fa h Y KX G hmg
    refine' Cb.lawGT (cR := ?cR) (PR := ?PR) (cL := ?cL) (PL := ?PL) ?zxR ?zpR ?zxL ?zpL (PySem.W.km_tabs_of Y _ ?zmR) (PySem.W.km_tabs_of Y _ ?zmL) ?znR ?znL (PySem.W.codeHd_of_K KX ?zhR) (PySem.W.codeHd_of_K KX ?zhL) (Cb.fin ?zT (Cb.ers_mk KX G ?zg0 ?zg1 ?ze1 ?zi1 ?zg2 ?ze2 ?zi2 ?zg3 ?ze3 ?zi3 ?zg4 ?ze4 ?zi4 ?zg5 ?ze5 ?zi5 ?zg6 ?ze6 ?zi6 ?zg7 ?ze7 ?zi7 ?zg8 ?ze8 ?zi8 ?zg9 ?ze9 ?zi9 ?zg10 ?ze10 ?zi10 ?zg11 ?ze11 ?zi11 ?zg12 ?ze12 ?zi12 ?zg13 ?ze13 ?zi13 ?zg14 ?ze14 ?zi14 ?zg15 ?zg16 ?ze16 ?zi16 ?zg17 ?ze17 ?zi17 ?zg18 ?ze18 ?zi18 ?zg19 ?ze19 ?zi19 ?zg20 ?zg21 ?zg22 ?ze22 ?zi22 ?zg23 ?ze23 ?zi23 ?zg24 ?ze24 ?zi24 ?zkt ?zex ?zkv1 ?zkv2 ?zkv3 ?zkl1 ?zkl2 ?zkl3 ?zka1 ?zka2 ?zka3 ?zc1 ?zc2 ?zc3 ?zcN ?zxN ?zpN ?zkN) ?ztR ?ztL ?zne hmg)
    case ztR => refine' Cb.standsT_mk KX G ?a ?l ?c ?k; (case a => k_is); (case l => k_is); (case c => k_is); (case k => k_is)
    case ztL => refine' Cb.standsT_mk KX G ?a ?l ?c ?k; (case a => k_is); (case l => k_is); (case c => k_is); (case k => k_is)
    case zxR => k_is
    case zpR => (with_unfolding_all rfl)
    case zxL => k_is
    case zpL => (with_unfolding_all rfl)
    case zmR => first | k_mem | decide | simp
    case zmL => first | k_mem | decide | simp
    case znR => first | kernel_rfl | rfl
    case znL => first | kernel_rfl | rfl
    case zhR => first | kernel_rfl | rfl
    case zhL => first | kernel_rfl | rfl
    case zne => decide
    case zg0 => k_is
    case zg1 => k_is
    case zg2 => k_is
    case zg3 => k_is
    case zg4 => k_is
    case zg5 => k_is
    case zg6 => k_is
    case zg7 => k_is
    case zg8 => k_is
    case zg9 => k_is
    case zg10 => k_is
    case zg11 => k_is
    case zg12 => k_is
    case zg13 => k_is
    case zg14 => k_is
    case zg15 => k_is
    case zg16 => k_is
    case zg17 => k_is
    case zg18 => k_is
    case zg19 => k_is
    case zg20 => k_is
    case zg21 => k_is
    case zg22 => k_is
    case zg23 => k_is
    case zg24 => k_is
    case ze1 => refine' ⟨Cb.okVE, PySem.W.mg_of KX G ?g, ?i, ?o, ?sa, ?ga, ?gg, ?kC, ?ex, ?ty, ?hd⟩; (case g => k_is); (case i => kernel_rfl); (case o => kernel_rfl); (case sa => k_is); (case ga => k_is); (case gg => k_is); (case kC => k_is); (case ex => k_is); (case ty => k_is); (case hd => k_is)
    case zi1 => refine' ⟨_, ?iC, ?tC, ?nN, ⟨_, _, _, _, _, _, _, _, _, _, _, _, _, _, Eq.trans ?l0 ?l1, ?c⟩, ?ne, ?ne2⟩; (case iC => k_is); (case tC => k_is); (case nN => k_is); (case l0 => k_is); (case l1 => rfl); (case c => k_is); (case ne => decide); (case ne2 => decide)
    case ze2 => refine' ⟨Cb.okVE, PySem.W.mg_of KX G ?g, ?i, ?o, ?sa, ?ga, ?gg, ?kC, ?ex, ?ty, ?hd⟩; (case g => k_is); (case i => kernel_rfl); (case o => kernel_rfl); (case sa => k_is); (case ga => k_is); (case gg => k_is); (case kC => k_is); (case ex => k_is); (case ty => k_is); (case hd => k_is)
    case zi2 => refine' ⟨_, ?iC, ?tC, ?nN, ⟨_, _, _, _, _, _, _, _, _, _, _, _, _, _, Eq.trans ?l0 ?l1, ?c⟩, ?ne, ?ne2⟩; (case iC => k_is); (case tC => k_is); (case nN => k_is); (case l0 => k_is); (case l1 => rfl); (case c => k_is); (case ne => decide); (case ne2 => decide)
    case ze3 => refine' ⟨Cb.okVE, PySem.W.mg_of KX G ?g, ?i, ?o, ?sa, ?ga, ?gg, ?kC, ?ex, ?ty, ?hd⟩; (case g => k_is); (case i => kernel_rfl); (case o => kernel_rfl); (case sa => k_is); (case ga => k_is); (case gg => k_is); (case kC => k_is); (case ex => k_is); (case ty => k_is); (case hd => k_is)
    case zi3 => refine' ⟨_, ?iC, ?tC, ?nN, ⟨_, _, _, _, _, _, _, _, _, _, _, _, _, _, Eq.trans ?l0 ?l1, ?c⟩, ?ne, ?ne2⟩; (case iC => k_is); (case tC => k_is); (case nN => k_is); (case l0 => k_is); (case l1 => rfl); (case c => k_is); (case ne => decide); (case ne2 => decide)
    case ze4 => refine' ⟨Cb.okVE, PySem.W.mg_of KX G ?g, ?i, ?o, ?sa, ?ga, ?gg, ?kC, ?ex, ?ty, ?hd⟩; (case g => k_is); (case i => kernel_rfl); (case o => kernel_rfl); (case sa => k_is); (case ga => k_is); (case gg => k_is); (case kC => k_is); (case ex => k_is); (case ty => k_is); (case hd => k_is)
    case zi4 => refine' ⟨_, ?iC, ?tC, ?nN, ⟨_, _, _, _, _, _, _, _, _, _, _, _, _, _, Eq.trans ?l0 ?l1, ?c⟩, ?ne, ?ne2⟩; (case iC => k_is); (case tC => k_is); (case nN => k_is); (case l0 => k_is); (case l1 => rfl); (case c => k_is); (case ne => decide); (case ne2 => decide)
    case ze5 => refine' ⟨Cb.okVE, PySem.W.mg_of KX G ?g, ?i, ?o, ?sa, ?ga, ?gg, ?kC, ?ex, ?ty, ?hd⟩; (case g => k_is); (case i => kernel_rfl); (case o => kernel_rfl); (case sa => k_is); (case ga => k_is); (case gg => k_is); (case kC => k_is); (case ex => k_is); (case ty => k_is); (case hd => k_is)
    case zi5 => refine' ⟨_, ?iC, ?tC, ?nN, ⟨_, _, _, _, _, _, _, _, _, _, _, _, _, _, Eq.trans ?l0 ?l1, ?c⟩, ?ne, ?ne2⟩; (case iC => k_is); (case tC => k_is); (case nN => k_is); (case l0 => k_is); (case l1 => rfl); (case c => k_is); (case ne => decide); (case ne2 => decide)
    case ze6 => refine' ⟨Cb.okVE, PySem.W.mg_of KX G ?g, ?i, ?o, ?sa, ?ga, ?gg, ?kC, ?ex, ?ty, ?hd⟩; (case g => k_is); (case i => kernel_rfl); (case o => kernel_rfl); (case sa => k_is); (case ga => k_is); (case gg => k_is); (case kC => k_is); (case ex => k_is); (case ty => k_is); (case hd => k_is)
    case zi6 => refine' ⟨_, ?iC, ?tC, ?nN, ⟨_, _, _, _, _, _, _, _, _, _, _, _, _, _, Eq.trans ?l0 ?l1, ?c⟩, ?ne, ?ne2⟩; (case iC => k_is); (case tC => k_is); (case nN => k_is); (case l0 => k_is); (case l1 => rfl); (case c => k_is); (case ne => decide); (case ne2 => decide)
    case ze7 => refine' ⟨Cb.okVE, PySem.W.mg_of KX G ?g, ?i, ?o, ?sa, ?ga, ?gg, ?kC, ?ex, ?ty, ?hd⟩; (case g => k_is); (case i => kernel_rfl); (case o => kernel_rfl); (case sa => k_is); (case ga => k_is); (case gg => k_is); (case kC => k_is); (case ex => k_is); (case ty => k_is); (case hd => k_is)
    case zi7 => refine' ⟨_, ?iC, ?tC, ?nN, ⟨_, _, _, _, _, _, _, _, _, _, _, _, _, _, Eq.trans ?l0 ?l1, ?c⟩, ?ne, ?ne2⟩; (case iC => k_is); (case tC => k_is); (case nN => k_is); (case l0 => k_is); (case l1 => rfl); (case c => k_is); (case ne => decide); (case ne2 => decide)
    case ze8 => refine' ⟨Cb.okVE, PySem.W.mg_of KX G ?g, ?i, ?o, ?sa, ?ga, ?gg, ?kC, ?ex, ?ty, ?hd⟩; (case g => k_is); (case i => kernel_rfl); (case o => kernel_rfl); (case sa => k_is); (case ga => k_is); (case gg => k_is); (case kC => k_is); (case ex => k_is); (case ty => k_is); (case hd => k_is)
    case zi8 => refine' ⟨_, ?iC, ?tC, ?nN, ⟨_, _, _, _, _, _, _, _, _, _, _, _, _, _, Eq.trans ?l0 ?l1, ?c⟩, ?ne, ?ne2⟩; (case iC => k_is); (case tC => k_is); (case nN => k_is); (case l0 => k_is); (case l1 => rfl); (case c => k_is); (case ne => decide); (case ne2 => decide)
    case ze9 => refine' ⟨Cb.okVE, PySem.W.mg_of KX G ?g, ?i, ?o, ?sa, ?ga, ?gg, ?kC, ?ex, ?ty, ?hd⟩; (case g => k_is); (case i => kernel_rfl); (case o => kernel_rfl); (case sa => k_is); (case ga => k_is); (case gg => k_is); (case kC => k_is); (case ex => k_is); (case ty => k_is); (case hd => k_is)
    case zi9 => refine' ⟨_, ?iC, ?tC, ?nN, ⟨_, _, _, _, _, _, _, _, _, _, _, _, _, _, Eq.trans ?l0 ?l1, ?c⟩, ?ne, ?ne2⟩; (case iC => k_is); (case tC => k_is); (case nN => k_is); (case l0 => k_is); (case l1 => rfl); (case c => k_is); (case ne => decide); (case ne2 => decide)
    case ze10 => refine' ⟨Cb.okVE, PySem.W.mg_of KX G ?g, ?i, ?o, ?sa, ?ga, ?gg, ?kC, ?ex, ?ty, ?hd⟩; (case g => k_is); (case i => kernel_rfl); (case o => kernel_rfl); (case sa => k_is); (case ga => k_is); (case gg => k_is); (case kC => k_is); (case ex => k_is); (case ty => k_is); (case hd => k_is)
    case zi10 => refine' ⟨_, ?iC, ?tC, ?nN, ⟨_, _, _, _, _, _, _, _, _, _, _, _, _, _, Eq.trans ?l0 ?l1, ?c⟩, ?ne, ?ne2⟩; (case iC => k_is); (case tC => k_is); (case nN => k_is); (case l0 => k_is); (case l1 => rfl); (case c => k_is); (case ne => decide); (case ne2 => decide)
    case ze11 => refine' ⟨Cb.okVE, PySem.W.mg_of KX G ?g, ?i, ?o, ?sa, ?ga, ?gg, ?kC, ?ex, ?ty, ?hd⟩; (case g => k_is); (case i => kernel_rfl); (case o => kernel_rfl); (case sa => k_is); (case ga => k_is); (case gg => k_is); (case kC => k_is); (case ex => k_is); (case ty => k_is); (case hd => k_is)
    case zi11 => refine' ⟨_, ?iC, ?tC, ?nN, ⟨_, _, _, _, _, _, _, _, _, _, _, _, _, _, Eq.trans ?l0 ?l1, ?c⟩, ?ne, ?ne2⟩; (case iC => k_is); (case tC => k_is); (case nN => k_is); (case l0 => k_is); (case l1 => rfl); (case c => k_is); (case ne => decide); (case ne2 => decide)
    case ze12 => refine' ⟨Cb.okVE, PySem.W.mg_of KX G ?g, ?i, ?o, ?sa, ?ga, ?gg, ?kC, ?ex, ?ty, ?hd⟩; (case g => k_is); (case i => kernel_rfl); (case o => kernel_rfl); (case sa => k_is); (case ga => k_is); (case gg => k_is); (case kC => k_is); (case ex => k_is); (case ty => k_is); (case hd => k_is)
    case zi12 => refine' ⟨_, ?iC, ?tC, ?nN, ⟨_, _, _, _, _, _, _, _, _, _, _, _, _, _, Eq.trans ?l0 ?l1, ?c⟩, ?ne, ?ne2⟩; (case iC => k_is); (case tC => k_is); (case nN => k_is); (case l0 => k_is); (case l1 => rfl); (case c => k_is); (case ne => decide); (case ne2 => decide)
    case ze13 => refine' ⟨Cb.okVE, PySem.W.mg_of KX G ?g, ?i, ?o, ?sa, ?ga, ?gg, ?kC, ?ex, ?ty, ?hd⟩; (case g => k_is); (case i => kernel_rfl); (case o => kernel_rfl); (case sa => k_is); (case ga => k_is); (case gg => k_is); (case kC => k_is); (case ex => k_is); (case ty => k_is); (case hd => k_is)
    case zi13 => refine' ⟨_, ?iC, ?tC, ?nN, ⟨_, _, _, _, _, _, _, _, _, _, _, _, _, _, Eq.trans ?l0 ?l1, ?c⟩, ?ne, ?ne2⟩; (case iC => k_is); (case tC => k_is); (case nN => k_is); (case l0 => k_is); (case l1 => rfl); (case c => k_is); (case ne => decide); (case ne2 => decide)
    case ze14 => refine' ⟨Cb.okVE, PySem.W.mg_of KX G ?g, ?i, ?o, ?sa, ?ga, ?gg, ?kC, ?ex, ?ty, ?hd⟩; (case g => k_is); (case i => kernel_rfl); (case o => kernel_rfl); (case sa => k_is); (case ga => k_is); (case gg => k_is); (case kC => k_is); (case ex => k_is); (case ty => k_is); (case hd => k_is)
    case zi14 => refine' ⟨_, ?iC, ?tC, ?nF, ?nP, ⟨_, _, _, _, _, _, _, _, _, _, _, _, _, _, _, _, _, _, _, Eq.trans ?l0 ?l1, ?c⟩⟩; (case iC => k_is); (case tC => k_is); (case nF => k_is); (case nP => k_is); (case l0 => k_is); (case l1 => rfl); (case c => k_is)
    case ze16 => refine' ⟨Cb.okLE, PySem.W.mg_of KX G ?g, ?i, ?o, ?sa, ?ga, ?gg, ?kC, ?ex, ?ty, ?hd⟩; (case g => k_is); (case i => kernel_rfl); (case o => kernel_rfl); (case sa => k_is); (case ga => k_is); (case gg => k_is); (case kC => k_is); (case ex => k_is); (case ty => k_is); (case hd => k_is)
    case zi16 => refine' ⟨_, ?iC, ?tC, ?nN, ⟨_, _, _, _, _, _, _, _, _, _, _, _, _, _, Eq.trans ?l0 ?l1, ?c⟩, ?ne, ?ne2⟩; (case iC => k_is); (case tC => k_is); (case nN => k_is); (case l0 => k_is); (case l1 => rfl); (case c => k_is); (case ne => decide); (case ne2 => decide)
    case ze17 => refine' ⟨Cb.okLE, PySem.W.mg_of KX G ?g, ?i, ?o, ?sa, ?ga, ?gg, ?kC, ?ex, ?ty, ?hd⟩; (case g => k_is); (case i => kernel_rfl); (case o => kernel_rfl); (case sa => k_is); (case ga => k_is); (case gg => k_is); (case kC => k_is); (case ex => k_is); (case ty => k_is); (case hd => k_is)
    case zi17 => refine' ⟨_, ?iC, ?tC, ?nN, ⟨_, _, _, _, _, _, _, _, _, _, _, _, _, _, Eq.trans ?l0 ?l1, ?c⟩, ?ne, ?ne2⟩; (case iC => k_is); (case tC => k_is); (case nN => k_is); (case l0 => k_is); (case l1 => rfl); (case c => k_is); (case ne => decide); (case ne2 => decide)
    case ze18 => refine' ⟨Cb.okLE, PySem.W.mg_of KX G ?g, ?i, ?o, ?sa, ?ga, ?gg, ?kC, ?ex, ?ty, ?hd⟩; (case g => k_is); (case i => kernel_rfl); (case o => kernel_rfl); (case sa => k_is); (case ga => k_is); (case gg => k_is); (case kC => k_is); (case ex => k_is); (case ty => k_is); (case hd => k_is)
    case zi18 => refine' ⟨_, ?iC, ?tC, ?nN, ⟨_, _, _, _, _, _, _, _, _, _, _, _, _, _, Eq.trans ?l0 ?l1, ?c⟩, ?ne, ?ne2⟩; (case iC => k_is); (case tC => k_is); (case nN => k_is); (case l0 => k_is); (case l1 => rfl); (case c => k_is); (case ne => decide); (case ne2 => decide)
    case ze19 => refine' ⟨Cb.okLE, PySem.W.mg_of KX G ?g, ?i, ?o, ?sa, ?ga, ?gg, ?kC, ?ex, ?ty, ?hd⟩; (case g => k_is); (case i => kernel_rfl); (case o => kernel_rfl); (case sa => k_is); (case ga => k_is); (case gg => k_is); (case kC => k_is); (case ex => k_is); (case ty => k_is); (case hd => k_is)
    case zi19 => refine' ⟨_, ?iC, ?tC, ?nN, ⟨_, _, _, _, _, _, _, _, _, _, _, _, _, _, Eq.trans ?l0 ?l1, ?c⟩, ?ne, ?ne2⟩; (case iC => k_is); (case tC => k_is); (case nN => k_is); (case l0 => k_is); (case l1 => rfl); (case c => k_is); (case ne => decide); (case ne2 => decide)
    case ze22 => refine' ⟨Cb.okAE, PySem.W.mg_of KX G ?g, ?i, ?o, ?sa, ?ga, ?gg, ?kC, ?ex, ?ty, ?hd⟩; (case g => k_is); (case i => kernel_rfl); (case o => kernel_rfl); (case sa => k_is); (case ga => k_is); (case gg => k_is); (case kC => k_is); (case ex => k_is); (case ty => k_is); (case hd => k_is)
    case zi22 => refine' ⟨_, ?iC, ?tC, ?nN, ⟨_, _, _, _, _, _, _, _, _, _, _, _, _, _, Eq.trans ?l0 ?l1, ?c⟩, ?ne, ?ne2⟩; (case iC => k_is); (case tC => k_is); (case nN => k_is); (case l0 => k_is); (case l1 => rfl); (case c => k_is); (case ne => decide); (case ne2 => decide)
    case ze23 => refine' ⟨Cb.okAE, PySem.W.mg_of KX G ?g, ?i, ?o, ?sa, ?ga, ?gg, ?kC, ?ex, ?ty, ?hd⟩; (case g => k_is); (case i => kernel_rfl); (case o => kernel_rfl); (case sa => k_is); (case ga => k_is); (case gg => k_is); (case kC => k_is); (case ex => k_is); (case ty => k_is); (case hd => k_is)
    case zi23 => refine' ⟨_, ?iC, ?tC, ?nN, ⟨_, _, _, _, _, _, _, _, _, _, _, _, _, _, Eq.trans ?l0 ?l1, ?c⟩, ?ne, ?ne2⟩; (case iC => k_is); (case tC => k_is); (case nN => k_is); (case l0 => k_is); (case l1 => rfl); (case c => k_is); (case ne => decide); (case ne2 => decide)
    case ze24 => refine' ⟨Cb.okAE, PySem.W.mg_of KX G ?g, ?i, ?o, ?sa, ?ga, ?gg, ?kC, ?ex, ?ty, ?hd⟩; (case g => k_is); (case i => kernel_rfl); (case o => kernel_rfl); (case sa => k_is); (case ga => k_is); (case gg => k_is); (case kC => k_is); (case ex => k_is); (case ty => k_is); (case hd => k_is)
    case zi24 => refine' ⟨_, ?iC, ?tC, ?nN, ⟨_, _, _, _, _, _, _, _, _, _, _, _, _, _, Eq.trans ?l0 ?l1, ?c⟩, ?ne, ?ne2⟩; (case iC => k_is); (case tC => k_is); (case nN => k_is); (case l0 => k_is); (case l1 => rfl); (case c => k_is); (case ne => decide); (case ne2 => decide)
    case zkt => kernel_rfl
    case zex => kernel_rfl
    case zkv1 => kernel_rfl
    case zkv2 => kernel_rfl
    case zkv3 => kernel_rfl
    case zkl1 => kernel_rfl
    case zkl2 => kernel_rfl
    case zkl3 => kernel_rfl
    case zka1 => kernel_rfl
    case zka2 => kernel_rfl
    case zka3 => kernel_rfl
    case zxN => first | kernel_rfl | k_exc
    case zkN => kernel_rfl
    case zpN => k_is
    case zc1 => refine' ⟨?cl, ?hg, ?hk, ?hs, ?ha, ?hn, ?ht, ?hm⟩; (case cl => first | kernel_rfl | rfl); (case hg => k_is); (case hk => k_is); (case hs => k_is); (case ha => k_is); (case hn => k_is); (case ht => k_is); (case hm => k_is)
    case zc2 => refine' ⟨?cl, ?hg, ?hk, ?hs, ?ha, ?hn, ?ht, ?hm⟩; (case cl => first | kernel_rfl | rfl); (case hg => k_is); (case hk => k_is); (case hs => k_is); (case ha => k_is); (case hn => k_is); (case ht => k_is); (case hm => k_is)
    case zc3 => refine' ⟨?cl, ?hg, ?hk, ?hs, ?ha, ?hn, ?ht, ?hm⟩; (case cl => first | kernel_rfl | rfl); (case hg => k_is); (case hk => k_is); (case hs => k_is); (case ha => k_is); (case hn => k_is); (case ht => k_is); (case hm => k_is)
    case zcN => refine' ⟨?cl, ?hg, ?hk, ?hs, ?ha, ?hn, ?ht, ?hm⟩; (case cl => first | kernel_rfl | rfl); (case hg => k_is); (case hk => k_is); (case hs => k_is); (case ha => k_is); (case hn => k_is); (case ht => k_is); (case hm => k_is)
    case zT =>
      refine' ⟨?d0, ?d1, ?d2, ?d3, ?d4, ?d5, ?d6, ?d7, ?d8, ?d9, ?d10, ?d11, ?d12, ?d13, ?d14, ?d15, ?d16, ?d17, ?d18, ?d19, ?d20, ?d21, ?d22, ?d23, ?d24, ?d25, ?d26, ?b0, ?b1, ?b2, ?b3, ?b4, ?b5, ?b6, ?b7, ?b8, ?b9, ?b10, ?b11, ?b12, ?b13, ?b14, ?b15, ?b16, ?c0, ?c1, ?c2, ?c3⟩
      case d0 => refine' Cb.stands_mk KX G ?a ?l ?c ?k; (case a => k_is); (case l => k_is); (case c => k_is); (case k => k_is)
      case d1 => refine' Cb.stands_mk KX G ?a ?l ?c ?k; (case a => k_is); (case l => k_is); (case c => k_is); (case k => k_is)
      case d2 => refine' Cb.stands_mk KX G ?a ?l ?c ?k; (case a => k_is); (case l => k_is); (case c => k_is); (case k => k_is)
      case d3 => refine' Cb.stands_mk KX G ?a ?l ?c ?k; (case a => k_is); (case l => k_is); (case c => k_is); (case k => k_is)
      case d4 => refine' Cb.stands_mk KX G ?a ?l ?c ?k; (case a => k_is); (case l => k_is); (case c => k_is); (case k => k_is)
      case d5 => refine' Cb.stands_mk KX G ?a ?l ?c ?k; (case a => k_is); (case l => k_is); (case c => k_is); (case k => k_is)
      case d6 => refine' Cb.stands_mk KX G ?a ?l ?c ?k; (case a => k_is); (case l => k_is); (case c => k_is); (case k => k_is)
      case d7 => refine' Cb.stands_mk KX G ?a ?l ?c ?k; (case a => k_is); (case l => k_is); (case c => k_is); (case k => k_is)
      case d8 => refine' Cb.stands_mk KX G ?a ?l ?c ?k; (case a => k_is); (case l => k_is); (case c => k_is); (case k => k_is)
      case d9 => refine' Cb.stands_mk KX G ?a ?l ?c ?k; (case a => k_is); (case l => k_is); (case c => k_is); (case k => k_is)
      case d10 => refine' Cb.stands_mk KX G ?a ?l ?c ?k; (case a => k_is); (case l => k_is); (case c => k_is); (case k => k_is)
      case d11 => refine' Cb.stands_mk KX G ?a ?l ?c ?k; (case a => k_is); (case l => k_is); (case c => k_is); (case k => k_is)
      case d12 => refine' Cb.stands_mk KX G ?a ?l ?c ?k; (case a => k_is); (case l => k_is); (case c => k_is); (case k => k_is)
      case d13 => refine' Cb.stands_mk KX G ?a ?l ?c ?k; (case a => k_is); (case l => k_is); (case c => k_is); (case k => k_is)
      case d14 => refine' Cb.stands_mk KX G ?a ?l ?c ?k; (case a => k_is); (case l => k_is); (case c => k_is); (case k => k_is)
      case d15 => refine' Cb.stands_mk KX G ?a ?l ?c ?k; (case a => k_is); (case l => k_is); (case c => k_is); (case k => k_is)
      case d16 => refine' Cb.stands_mk KX G ?a ?l ?c ?k; (case a => k_is); (case l => k_is); (case c => k_is); (case k => k_is)
      case d17 => refine' Cb.stands_mk KX G ?a ?l ?c ?k; (case a => k_is); (case l => k_is); (case c => k_is); (case k => k_is)
      case d18 => refine' Cb.stands_mk KX G ?a ?l ?c ?k; (case a => k_is); (case l => k_is); (case c => k_is); (case k => k_is)
      case d19 => refine' Cb.stands_mk KX G ?a ?l ?c ?k; (case a => k_is); (case l => k_is); (case c => k_is); (case k => k_is)
      case d20 => refine' Cb.stands_mk KX G ?a ?l ?c ?k; (case a => k_is); (case l => k_is); (case c => k_is); (case k => k_is)
      case d21 => refine' Cb.stands_mk KX G ?a ?l ?c ?k; (case a => k_is); (case l => k_is); (case c => k_is); (case k => k_is)
      case d22 => refine' Cb.stands_mk KX G ?a ?l ?c ?k; (case a => k_is); (case l => k_is); (case c => k_is); (case k => k_is)
      case d23 => refine' Cb.stands_mk KX G ?a ?l ?c ?k; (case a => k_is); (case l => k_is); (case c => k_is); (case k => k_is)
      case d24 => refine' Cb.stands_mk KX G ?a ?l ?c ?k; (case a => k_is); (case l => k_is); (case c => k_is); (case k => k_is)
      case d25 => refine' Cb.stands_mk KX G ?a ?l ?c ?k; (case a => k_is); (case l => k_is); (case c => k_is); (case k => k_is)
      case d26 => refine' Cb.stands_mk KX G ?a ?l ?c ?k; (case a => k_is); (case l => k_is); (case c => k_is); (case k => k_is)
      case b0 => refine' PySem.W.mg_none_of KX G ?z; (case z => k_is)
      case b1 => refine' PySem.W.mg_none_of KX G ?z; (case z => k_is)
      case b2 => refine' PySem.W.mg_none_of KX G ?z; (case z => k_is)
      case b3 => refine' PySem.W.mg_none_of KX G ?z; (case z => k_is)
      case b4 => refine' PySem.W.mg_none_of KX G ?z; (case z => k_is)
      case b5 => refine' PySem.W.mg_none_of KX G ?z; (case z => k_is)
      case b6 => refine' PySem.W.mg_none_of KX G ?z; (case z => k_is)
      case b7 => refine' PySem.W.mg_none_of KX G ?z; (case z => k_is)
      case b8 => refine' PySem.W.mg_none_of KX G ?z; (case z => k_is)
      case b9 => refine' PySem.W.mg_none_of KX G ?z; (case z => k_is)
      case b10 => refine' PySem.W.mg_none_of KX G ?z; (case z => k_is)
      case b11 => refine' PySem.W.mg_none_of KX G ?z; (case z => k_is)
      case b12 => refine' PySem.W.mg_none_of KX G ?z; (case z => k_is)
      case b13 => refine' PySem.W.mg_none_of KX G ?z; (case z => k_is)
      case b14 => refine' PySem.W.mg_none_of KX G ?z; (case z => k_is)
      case b15 => refine' PySem.W.mg_none_of KX G ?z; (case z => k_is)
      case b16 => refine' PySem.W.mg_none_of KX G ?z; (case z => k_is)
      case c0 => refine' Cb.globi_mk KX G ?a; (case a => k_is)
      case c1 => refine' Cb.globi_mk KX G ?a; (case a => k_is)
      case c2 => refine' Cb.globt_mk KX G ?a ?l ?v ?z; (case a => k_is); (case l => k_is); (case v => repeat (first | exact .nil | refine .cons ⟨_, rfl⟩ ?_)); (case z => decide)
      case c3 => refine' Cb.globt_mk KX G ?a ?l ?v ?z; (case a => k_is); (case l => k_is); (case v => repeat (first | exact .nil | refine .cons ⟨_, rfl⟩ ?_)); (case z => decide)
    all_goals exact h
#print axioms PySem.Challenge.cw_codeback_k02_numbers_and_operations_refu_holds

