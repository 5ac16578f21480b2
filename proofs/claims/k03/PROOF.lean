import PyProof.Rows.All
import Wide.All
import OpenK.AllK
import Wide.FinOn
import HandS.ForMost
import HandS.Star
import HandS.IsInst
import HandS.WideBits
import HandS.EndBits
import HandS.Style
import HandS.Flow
import KE.GoesEnum
import KE.GoesMore
import KE.BitLaws
import PySem.Challenge.RW_codeback_k03_whole_operations_by_rules
set_option Elab.async false
set_option linter.all false
section
set_option maxRecDepth 100000
set_option maxHeartbeats 4000000
namespace Cb
open PySem PySem.Spec PyProof.Rows L2

/-! ### a def of the module by its name: what it promises -/
def Gives (P : Program) (w : World) (K : PySem.W.Frag) (mg : Str → Option Value) (base : Heap) (CX : CXT) (k : Nat) (x : Str) (sp : Sp) : Prop :=
  ∃ f, mg x = some (.ref f) ∧ PySem.W.keepIn K (.ref f) = true ∧ FnR P w K mg base CX k f sp
/-- the reading of such a call -/
def tOwn (sp : Sp) (E : XK) (t : TA) : TE := fun σ H Q => t σ H fun vs H1 => sp vs H1 Q E
section
variable {X : Cx} {CX : CXT} {k : Nat} {sp : Sp} {E : XK} {x : Str} {e : Expr} {es : List Expr} {t : TA} {p pos : Pos}
/-- x(e, ..), x a def of the module, by its positional promise -/
theorem pe_own (F : Gives X.prog X.w X.K X.mg X.base CX k x sp) (hr : Room k X.A) (hg : Gl X x) (hx : Passes CX X E) (ha : PA X (e :: es) t) (hdb : (x == ("__debug__" : Str)) = false := by decide)
    (he : starEach (e :: es) X.env = (false, eval e X.env) :: starEach es X.env := by rfl) (hpl : (backTo pos (starEach es X.env)).any (·.1) = false := by rfl) :
    PE X (.Call (.Name x p) (e :: es) [] pos) (tOwn sp E t) := by
  obtain ⟨f, hm, hk, F⟩ := F
  refine ⟨fun pins s σ H Q I h => ?_⟩
  refine wpAny_Call_Name_kw (ld_glob I hg hm ?_ hdb)
  refine PySem.W.callWith_K (h₀ := X.base) I.ok.mod.kin hk (thn (ha.run pos pins s σ H _ I h) fun us s1 ⟨vs, H1, I1, r, q⟩ => ⟨I1.kIn, ?_⟩) he hpl
  exact wpAny_call (run_fnR F hr hx I1 r q)
/-- x() -/
theorem pe_own0 (F : Gives X.prog X.w X.K X.mg X.base CX k x sp) (hr : Room k X.A) (hg : Gl X x) (hx : Passes CX X E) (hdb : (x == ("__debug__" : Str)) = false := by decide) :
    PE X (.Call (.Name x p) [] [] pos) (tOwn sp E tNil) := by
  obtain ⟨f, hm, hk, F⟩ := F
  refine ⟨fun pins s σ H Q I h => ?_⟩
  refine wpAny_Call_Name_kw (ld_glob I hg hm ?_ hdb)
  exact PySem.W.callWith_K0 I.kIn hk (wpAny_call (run_fnR F hr hx I .nil h))
end
theorem gives_of {P : Program} {w : World} {K : PySem.W.Frag} {mg : Str → Option Value} {base : Heap} {CX : CXT} {k : Nat} {x : Str} {sp : Sp} {f : Addr} {fd : FuncData} {ps : List Str} (hm : mg x = some (.ref f)) (hk : PySem.W.keepIn K (.ref f) = true) (F : FnOk P w K mg base CX k f fd ps sp) (b : Binds K fd ps []) :
    Gives P w K mg base CX k x sp := ⟨f, hm, hk, by
  intro A outer s H us vs Q E hr e0 r hsp
  have hl := F.len vs H Q E hsp
  have KX : K.In s.heap := e0.mod.kin.keeps fun b o e => (e0.bs b o e).1
  have hb := b s us KX (by rw [List.append_nil, ← r.length]; exact hl)
  rw [List.append_nil] at hb
  exact F.run A outer s H _ us vs Q E hr e0 hb r hsp⟩

/-! ### heaps that only grow -/
theorem same_upd {H : Hp} {p : Addr} {o : HO} (h : H p = none) : Same H (upd H p o) := fun b x e => by
  rw [upd_ne (ne_of_none e h)]
  exact e
theorem Same.upd {H H1 : Hp} {p : Addr} {o : HO} (s : Same H H1) (h : H1 p = none) : Same H (upd H1 p o) := s.trans (same_upd h)
/-- all but a stays -/
def SameBut (a : Addr) (H H' : Hp) : Prop := ∀ b o, b ≠ a → H b = some o → H' b = some o
theorem SameBut.refl (a : Addr) (H : Hp) : SameBut a H H := fun _ _ _ h => h
theorem SameBut.of {a : Addr} {H H' : Hp} (s : Same H H') : SameBut a H H' := fun b o _ h => s b o h
theorem SameBut.trans {a : Addr} {H H1 H2 : Hp} (s : SameBut a H H1) (t : SameBut a H1 H2) : SameBut a H H2 := fun b o n h => t b o n (s b o n h)
theorem SameBut.upd {a : Addr} {H H1 : Hp} {o : HO} (s : SameBut a H H1) : SameBut a H (upd H1 a o) := fun b x n h => by
  rw [upd_ne n]
  exact s b x n h
theorem SameBut.new {a : Addr} {H H1 : Hp} {p : Addr} {o : HO} (s : SameBut a H H1) (h : H1 p = none) : SameBut a H (L2.upd H1 p o) := s.trans (.of (same_upd h))
theorem sqt_same {K : PySem.W.Frag} {H H' : Hp} {a : Addr} {xs : List V} (e : Same H H') (h : SqT K H a xs) : SqT K H' a xs := by
  rcases h with (h | ⟨o, h⟩) | h
  · exact .inl (.inl (e _ _ h))
  · exact .inl (.inr ⟨o, e _ _ h⟩)
  · exact .inr h

/-! ### enumerate(tuple) -/
set_option maxHeartbeats 1000000 in
theorem meets_enumerate_new1 {v : Value} {o : Obj} {H : Heap → Prop} (B : Begins v o H) :
    Meets (Builtin.«enumerate.__new__» ⟨[.type "enumerate", v], []⟩) (fun _ R s => H s.heap ∧
      R (.ok (.ret (.ref (s.heap.push o).objs.size))) { s with heap := (s.heap.push o).push { cls := .type "enumerate", data := .fields #[.none, .bool false, .ref s.heap.objs.size, rawInt 0, .none, .none] } }) :=
  .of_wp fun prog w A R s h => by
    obtain ⟨hp, g, d, tk, os⟩ := s; obtain ⟨h1, h⟩ := h
    have hsub := sub_enumerate
    have q1 : ∀ {A' : Around} {E : Value → Shared → Prop} {Q : Value → Shared → Prop}, Q (.ref hp.objs.size) ⟨hp.push o, g, d, tk, os⟩ → wpAny (model prog w) A' (pyIter v) Q E ⟨hp, g, d, tk, os⟩ :=
      fun q => B.iter prog w _ _ ⟨hp, g, d, tk, os⟩ _ h1 q
    wp_walk using q1
    refine wpAny_stack_any fun st => wpAny_pure ?_
    split
    · rename_i c _ _ _ _ _
      cases (c == Value.type "enumerate")
      · wp_walk using q1
        exact ⟨_, rfl, h⟩
      · wp_walk using q1
        exact ⟨_, rfl, h⟩
    · wp_walk using q1
      exact ⟨_, rfl, h⟩
section
variable {prog : Program} {w : World} {A : Around} {E : Value → Shared → Prop} {s : Shared}
theorem enum_begins1 {v : Value} {o : Obj} {H : Heap → Prop} {Q : Value → Shared → Prop} (B : Begins v o H) (h1 : H s.heap)
    (h : ∀ h', IsEnum h' (s.heap.objs.size + 1) s.heap.objs.size 0 .none → h'.get? s.heap.objs.size = some o → h'.objs.size = s.heap.objs.size + 2 →
      (∀ b o, s.heap.get? b = some o → h'.get? b = some o) → Q (.ref (s.heap.objs.size + 1)) { s with heap := h' }) :
    wpAny (model prog w) A (call (.type "enumerate") [v]) Q E s := by
  refine callType_new F.called_enumerate (by decide) (F.typeCall_enumerate_1 _) (F.newCall_enumerate_1 _) (fun obj => F.args_object_init_2 obj _) F.entry_enumerate_new
    (meets_enumerate_new1 B) ⟨h1, ?_⟩
  have hz : (s.heap.push o).objs.size = s.heap.objs.size + 1 := Heap.size_push ..
  show _ ∧ _
  rw [hz]
  have he : IsEnum ((s.heap.push o).push { cls := .type "enumerate", data := .fields #[.none, .bool false, .ref s.heap.objs.size, rawInt 0, .none, .none] }) (s.heap.objs.size + 1) s.heap.objs.size 0 .none := by
    have := Heap.get?_push_size (s.heap.push o) (o := { cls := .type "enumerate", data := .fields #[.none, .bool false, .ref s.heap.objs.size, rawInt 0, .none, .none] }) rfl
    rw [hz] at this; exact this
  refine ⟨⟨_, he, rfl⟩, h _ he (Heap.get?_push_of_some _ (Heap.get?_push_size _ B.free)) (by rw [Heap.size_push, hz]) fun b o x => Heap.get?_push_of_some _ (Heap.get?_push_of_some _ x)⟩
end
/-- the tuple at a, each item in a new pair -/
def IteT (K : PySem.W.Frag) (a : Addr) : It :=
  ⟨fun i H => ∃ (xs : List V) (x : V), SqT K H a xs ∧ xs[i]? = some x, fun i H v H' => ∃ T x, v = .ref T ∧ H T = none ∧ H' = upd H T (.tup [.int (i : Nat), x]) ∧ ∀ xs, SqT K H a xs → xs[i]? = some x, fun i H => ∃ xs : List V, SqT K H a xs ∧ xs.length = i⟩
theorem turn_enumT {P : Program} {w : World} {K : PySem.W.Frag} {elts : List Expr} {kk : Nat} {tpos : Pos} (a e it : Addr) :
    Turn P w K (.Tuple elts kk tpos) (IteT K a) [e, it] e (fun i h => (∃ old, IsEnum h e it ((i : Nat) : Int) old) ∧ h.IsTupleIter it a i ∧ e ≠ it ∧ a ≠ it ∧ a ≠ e) where
  mem := by simp
  obj := fun i h st b hb => by
    obtain ⟨⟨old, he⟩, ⟨o, ho, hc, hd⟩, _⟩ := st
    have e' : b = e ∨ b = it := by simpa using hb
    rcases e' with z | z
    · rw [z]; exact ⟨_, he, fun v q => nomatch q⟩
    · rw [z]; exact ⟨o, ho, fun v q => by rw [hd] at q; cases q⟩
  keep := fun i h h' st k => let ⟨⟨old, he⟩, hi, hne⟩ := st; ⟨⟨old, k e (by simp) _ he⟩, hi.at fun o q => k it (by simp) o q, hne⟩
  item := by
    intro X hP hw hK hc i pins s σ H E I hf st hg
    subst hP hw hK
    obtain ⟨⟨old, he⟩, hit, hne, hai, hae⟩ := st
    obtain ⟨xs, x, hq, hx⟩ := hg
    obtain ⟨its, rv, p, hz⟩ := I.tuple hq
    obtain ⟨u, hu, ru⟩ := rv.get hx
    have hel : e < s.heap.objs.size := Heap.lt_size he
    have hil : it < s.heap.objs.size := by obtain ⟨_, q, _⟩ := hit; exact Heap.lt_size q
    have hlt : i < its.toArray.size := by
      rw [List.size_toArray]
      exact (List.getElem?_eq_some_iff.mp hu).1
    refine wpAny_pyNext_enum_itemD (Draws.tuple (show X.A.in1.handled = none from I.ok.hd hc) it a hai its.toArray) he ⟨hit, show s.heap.IsTuple a its.toArray from p⟩ hlt hne (by simp; exact ⟨hne, Ne.symm hae⟩) fun v h' tk hv ho hst hT hsz hk => ?_
    have ev : v = u := by
      have e1 : its[i]? = some v := by simpa using hv
      rw [hu] at e1
      exact (Option.some.inj e1).symm
    subst ev
    refine ⟨_, rfl, wpAny_letOwnedTupleGo_enum (s := { s with heap := h', toks := tk + 1 }) ho fun h'' he' sb => ?_⟩
    have hT2 : h''.get? s.heap.objs.size = some { cls := .type "tuple", data := .seq #[.int i tk, v] } := (sb.2 _ (Nat.ne_of_gt hel)).trans hT
    have new : ObjOk X.prog X.w (upd H s.heap.objs.size (.tup [.int (i : Nat), x])) h'' s.heap.objs.size (.tup [.int (i : Nat), x]) :=
      ⟨by show 2 ≤ sizeLine; decide, [.int i tk, v], .cons ⟨_, rfl⟩ (.cons ru .nil), ⟨_, hT2, rfl, _, rfl⟩⟩
    have I1 : Inv X pins σ (upd H s.heap.objs.size (.tup [.int (i : Nat), x])) { s with heap := h'', toks := tk + 1 } :=
      I.turnedNew (ch := [e, it]) (fun b ob hb q => (sb.2 b (fun z => hb (by simp [z]))).trans (hk b ob (fun z => hb (by simp [z])) (fun z => hb (by simp [z])) q)) hf (Nat.le_refl _) new
    refine ⟨.ref s.heap.objs.size, _, I1, rfl, ⟨_, x, rfl, I.hok.fresh (Nat.le_refl _), rfl, fun ys hy => by rw [I.tuple_inj hy hq]; exact hx⟩, ⟨⟨v, ?_⟩, hst.1.at fun o q => (sb.2 it (Ne.symm hne)).trans q, hne, hai, hae⟩, fun b hb => ?_⟩
    · have e1 : ((i + 1 : Nat) : Int) = (i : Int) + 1 := by omega
      rw [e1]; exact he'
    · have hb' : b < s.heap.objs.size := by
        have e' : b = e ∨ b = it := by simpa using hb
        rcases e' with z | z
        · rw [z]; exact hel
        · rw [z]; exact hil
      rw [upd_ne (Nat.ne_of_lt hb')]
      exact (hf b hb).1
  done := by
    intro X hP hw hK hc i pins s σ H E I hf st hg
    subst hP hw hK
    obtain ⟨⟨old, he⟩, hit, hne, hai, hae⟩ := st
    obtain ⟨xs, hq, hx⟩ := hg
    obtain ⟨its, rv, p, hz⟩ := I.tuple hq
    obtain ⟨f0, f1, f2, f3, f4, f5⟩ := hf it (by simp)
    have hl := rv.length
    have ei : its.toArray.size = i := by
      rw [List.size_toArray]
      omega
    refine wpAny_pyNext_enum_endD (Draws.tuple (show X.A.in1.handled = none from I.ok.hd hc) it a hai its.toArray) he ⟨?_, show s.heap.IsTuple a its.toArray from p⟩ fun h' eb => ⟨rfl, I.turned (t' := s.toks) (fun b o hb q => eb b o hb q) f0 f1 f3 f4 f5⟩
    rw [ei]
    exact hit
  self := fun A i s Q E st h => let ⟨⟨_, he⟩, _⟩ := st; wpAny_pyIter_enum he h
theorem for_enumT {K : PySem.W.Frag} {a : Addr} {xs : List V} {g : TG} {tb : TS} {D : Ends} {σ : L2.St} {H : Hp} (Pv : Nat → L2.St → Hp → Prop) (h0 : Pv 0 σ H) (hl : ∀ i σ H, i ≤ xs.length → Pv i σ H → SqT K H a xs)
    (hs : ∀ i x σ H T, xs[i]? = some x → Pv i σ H → H T = none → g (.ref T) σ (upd H T (.tup [.int (i : Nat), x])) fun σ2 H2 => tb { D with nx := Pv (i + 1), ct := Pv (i + 1), bk := D.nx } σ2 H2) (hd : ∀ σ H, Pv xs.length σ H → D.nx σ H) :
    ∃ W : Nat → Nat → L2.St → Hp → Prop, (∃ m, W 0 m σ H) ∧ ∀ i m σ H, W i m σ H →
      ((IteT K a).stop i H ∧ D.nx σ H) ∨ ((IteT K a).go i H ∧ ∃ N : L2.St → Hp → Prop, (∀ σ' H', N σ' H' → ∃ m', m' < m ∧ W (i + 1) m' σ' H') ∧ ∀ x H', (IteT K a).yld i H x H' → g x σ H' fun σ2 H2 => tb { D with nx := N, ct := N, bk := D.nx } σ2 H2) := by
  refine ⟨fun i m σ H => m = xs.length - i ∧ i ≤ xs.length ∧ Pv i σ H, ⟨xs.length, by simp, Nat.zero_le _, h0⟩, ?_⟩
  rintro i m σ H ⟨rfl, hi, p⟩
  have q := hl i σ H hi p
  by_cases hlt : i < xs.length
  · have hx : xs[i]? = some xs[i] := List.getElem?_eq_getElem hlt
    refine .inr ⟨⟨xs, _, q, hx⟩, Pv (i + 1), fun σ' H' p' => ⟨xs.length - (i + 1), by omega, rfl, hlt, p'⟩, fun v H' hy => ?_⟩
    obtain ⟨T, x, rfl, hT, rfl, f⟩ := hy
    exact hs i x σ H T (f xs q) p hT
  · obtain rfl : i = xs.length := by omega
    exact .inl ⟨⟨xs, q, rfl⟩, hd σ H p⟩
def iEnumT (K : PySem.W.Frag) (ta : TA) : TI := fun σ H R => ta σ H fun vs H1 => ∃ a xs, vs = [.ref a] ∧ SqT K H1 a xs ∧ R (IteT K a) H1
theorem pi_enumT {X : Cx} {e : Expr} {ta : TA} {p pos tpos : Pos} {elts : List Expr} {kk : Nat} (hg : Gl X "enumerate") (hm : X.mg "enumerate" = none) (ha : PA X [e] ta) (hs : starEach [e] X.env = [(false, eval e X.env)] := by rfl) :
    PI X (.Tuple elts kk tpos) (.Call (.Name "enumerate" p) [e] [] pos) (iEnumT X.K ta) := by
  refine ⟨fun pins s σ H R I h => ?_⟩
  refine Call_ (ld_blt I hg hm boot_enumerate (PyProof.Rows.callWith_type1 (thn (ha.run pos pins s σ H _ I h) fun us s1 ⟨vs, H1, I1, r1, q1⟩ => ?_) hs rfl))
  obtain ⟨a, xs, ex, hq, q⟩ := q1
  subst ex
  cases r1 with
  | cons r rr =>
    cases rr
    cases r
    obtain ⟨its, rv, p', hz⟩ := I1.tuple hq
    have p2 : s1.heap.IsTuple a its.toArray := p'
    have hal : a < s1.heap.objs.size := by
      obtain ⟨o, ho, _⟩ := id p2
      exact Heap.lt_size ho
    refine enum_begins1 (begins_tuple a its.toArray) p2 fun h' he hit hsz hk => wpAny_pyIter_enum he ?_
    have I2 : Inv X pins σ H1 { s1 with heap := h' } := I1.kept (t' := s1.toks) hk
    refine ⟨s1.heap.objs.size + 1, [s1.heap.objs.size + 1, s1.heap.objs.size], _, _, H1, rfl, I2, turn_enumT a (s1.heap.objs.size + 1) s1.heap.objs.size, ⟨⟨.none, he⟩, ⟨_, hit, rfl, rfl⟩, Nat.succ_ne_self _, Nat.ne_of_lt hal, Nat.ne_of_lt (Nat.lt_succ_of_lt hal)⟩, fun b hb => ?_, q⟩
    have e' : b = s1.heap.objs.size + 1 ∨ b = s1.heap.objs.size := by simpa using hb
    have hle : s1.heap.objs.size ≤ b := by
      rcases e' with z | z
      · rw [z]; exact Nat.le_add_right _ _
      · rw [z]; exact Nat.le_refl _
    exact I1.fpOk hle (I1.hok.fresh hle)
end Cb

end

section
set_option maxRecDepth 100000
set_option maxHeartbeats 4000000
namespace Cb
open PySem PySem.Spec PyProof.Rows L2
theorem PE.imp {X : Cx} {e : Expr} {t t' : TE} (h : PE X e t) (hi : ∀ σ H Q, t' σ H Q → t σ H Q) : PE X e t' := ⟨fun pins s σ H Q I q => h.run pins s σ H Q I (hi σ H Q q)⟩
theorem PT.imp {X : Cx} {e : Expr} {t t' : TT} (h : PT X e t) (hi : ∀ σ H Q, t' σ H Q → t σ H Q) : PT X e t' := ⟨fun pins s σ H Q I q => h.run pins s σ H Q I (hi σ H Q q)⟩
/-- a constant of the module -/
def GlobV (mg : Str → Option Value) (x : Str) (v : V) : Prop := ∃ u, mg x = some u ∧ RelV v u
/-- a written tuple of the module -/
def GlobT (K : PySem.W.Frag) (mg : Str → Option Value) (x : Str) (xs : List V) : Prop := ∃ a, mg x = some (.ref a) ∧ ∀ H, SqT K H a xs
def tGT (K : PySem.W.Frag) (xs : List V) : TE := fun _ H Q => ∀ a, (∀ H', SqT K H' a xs) → Q (.ref a) H
section
variable {X : Cx} {x : Str} {pos p q : Pos}
theorem pe_gv {v : V} (hg : Gl X x) (h : GlobV X.mg x v) (hd : (x == ("__debug__" : Str)) = false := by decide) : PE X (.Name x pos) (tC v) := by
  obtain ⟨u, hm, r⟩ := h
  exact pe_glob hg hm r hd
theorem pe_gt {xs : List V} (hg : Gl X x) (h : GlobT X.K X.mg x xs) (hd : (x == ("__debug__" : Str)) = false := by decide) : PE X (.Name x pos) (tGT X.K xs) := by
  obtain ⟨a, hm, hs⟩ := h
  exact PE.imp (pe_glob (v := .ref a) hg hm rfl hd) fun σ H Q z => z a hs
def tConst (cs : List V) : TA := fun _ H Q => Q cs H
theorem pc_nil : PA X [] (tConst []) := pa_nil
theorem pc_cons {s : Str} {es : List Expr} {cs : List V} {j} (h : PA X es (tConst cs)) (hs : starEach (.Constant (.str s) j p :: es) X.env = (false, eval (.Constant (.str s) j p) X.env) :: starEach es X.env := by rfl) :
    PA X (.Constant (.str s) j p :: es) (tConst (.str s :: cs)) := pa_cons pe_str h hs
def tInC (neg : Bool) (i : Nat) (cs : List V) : TE := fun σ H Q => ∃ x, σ[i]? = some (some x) ∧ flatV x = true ∧ ∀ H2, Same H H2 → Q (.bl (if neg then !inV x cs else inV x cs)) H2
theorem pe_inC {i k : Nat} {es : List Expr} {cs : List V} (hN : X.N[i]? = some x) (hv : Vis X.env.scope x) (hc : PA X es (tConst cs)) (hf : cs.all flatV = true := by rfl) (hl : cs.length ≤ sizeLine := by decide)
    (hd : (x == ("__debug__" : Str)) = false := by decide) (hcd : (x == ("__classdict__" : Str)) = false := by decide) :
    PE X (.Compare (.Name x p) [.In] [.Tuple es k q] pos) (tInC false i cs) :=
  PE.imp (pe_cmpR op_in_seq (pe_var hN hv hd hcd) (pe_tup hc) rfl) fun σ H Q z => by
    obtain ⟨v, e, fv, z⟩ := z
    exact ⟨v, e, hl, fun a ha => ⟨a, cs, rfl, .inr (.inl (.inl upd_same)), fv, hf, z _ (same_upd ha)⟩⟩
theorem pe_notinC {i k : Nat} {es : List Expr} {cs : List V} (hN : X.N[i]? = some x) (hv : Vis X.env.scope x) (hc : PA X es (tConst cs)) (hf : cs.all flatV = true := by rfl) (hl : cs.length ≤ sizeLine := by decide)
    (hd : (x == ("__debug__" : Str)) = false := by decide) (hcd : (x == ("__classdict__" : Str)) = false := by decide) :
    PE X (.Compare (.Name x p) [.NotIn] [.Tuple es k q] pos) (tInC true i cs) :=
  PE.imp (pe_cmpR op_notIn_seq (pe_var hN hv hd hcd) (pe_tup hc) rfl) fun σ H Q z => by
    obtain ⟨v, e, fv, z⟩ := z
    exact ⟨v, e, hl, fun a ha => ⟨a, cs, rfl, .inr (.inl (.inl upd_same)), fv, hf, z _ (same_upd ha)⟩⟩
theorem pt_inC {i k : Nat} {es : List Expr} {cs : List V} (hN : X.N[i]? = some x) (hv : Vis X.env.scope x) (hc : PA X es (tConst cs)) (hf : cs.all flatV = true := by rfl) (hl : cs.length ≤ sizeLine := by decide)
    (hd : (x == ("__debug__" : Str)) = false := by decide) (hcd : (x == ("__classdict__" : Str)) = false := by decide) :
    PT X (.Compare (.Name x p) [.In] [.Tuple es k q] pos) (tTest (tInC false i cs)) :=
  PT.imp (pt_cmpR op_in_seq (pe_var hN hv hd hcd) (pe_tup hc) rfl) fun σ H Q z => by
    obtain ⟨v, e, fv, z⟩ := z
    exact ⟨v, e, hl, fun a ha => ⟨a, cs, rfl, .inr (.inl (.inl upd_same)), fv, hf, z _ (same_upd ha)⟩⟩
theorem pt_notinC {i k : Nat} {es : List Expr} {cs : List V} (hN : X.N[i]? = some x) (hv : Vis X.env.scope x) (hc : PA X es (tConst cs)) (hf : cs.all flatV = true := by rfl) (hl : cs.length ≤ sizeLine := by decide)
    (hd : (x == ("__debug__" : Str)) = false := by decide) (hcd : (x == ("__classdict__" : Str)) = false := by decide) :
    PT X (.Compare (.Name x p) [.NotIn] [.Tuple es k q] pos) (tTest (tInC true i cs)) :=
  PT.imp (pt_cmpR op_notIn_seq (pe_var hN hv hd hcd) (pe_tup hc) rfl) fun σ H Q z => by
    obtain ⟨v, e, fv, z⟩ := z
    exact ⟨v, e, hl, fun a ha => ⟨a, cs, rfl, .inr (.inl (.inl upd_same)), fv, hf, z _ (same_upd ha)⟩⟩
/-- a ** b of written numbers -/
theorem pe_powc (c : Int) {a b : Int} {j k} (h : CPow a b) (e : a ^ b.toNat = c) : PE X (.BinOp (.Constant (.int a) j p) .Pow (.Constant (.int b) k q) pos) (tC (.int c)) :=
  PE.imp (pe_op op_pow pe_int pe_int) fun σ H Q z => by
    subst e
    exact ⟨_, _, rfl, rfl, h, z⟩
/-- -a of a written number -/
theorem pe_negc (c : Int) {a : Int} {j} (e : -a = c) : PE X (.UnaryOp .USub (.Constant (.int a) j p) pos) (tC (.int c)) :=
  PE.imp (pe_un un_neg pe_int) fun σ H Q z => by
    subst e
    exact ⟨_, rfl, z⟩
/-- isinstance(x, T) for x in slot i, T a built-in class -/
def tIsi (K : PySem.W.Frag) (i : Nat) (b : String) : TE := fun σ H Q => ∃ (x : V) (t : Value) (r : Bool), σ[i]? = some (some x) ∧ TyX K H x t ∧ PySem.W.kitOne K t (.type b) = some r ∧ Q (.bl r) H
end
/-! ### answers by equations -/
theorem bl_cast {Q : VK} {H : Hp} {a b : Bool} (e : a = b) (q : Q (.bl b) H) : Q (.bl a) H := e ▸ q
theorem int_cast {Q : VK} {H : Hp} {i j : Int} (e : i = j) (q : Q (.int j) H) : Q (.int i) H := e ▸ q
theorem v_cast {Q : VK} {H : Hp} {i j : V} (e : i = j) (q : Q j H) : Q i H := e ▸ q
theorem iteF' {A B : Prop} {b : Bool} (e : b = false) (h : B) : if b = true then A else B := by
  subst e
  exact iteF h
theorem iteT' {A B : Prop} {b : Bool} (e : b = true) (h : A) : if b = true then A else B := by
  subst e
  exact iteT h
end Cb

end

section
set_option maxRecDepth 100000
set_option maxHeartbeats 4000000
namespace Cb
open PySem PySem.Spec PyProof.Rows L2
/-- a def of the module stands there as the text says -/
def Stands (K : PySem.W.Frag) (mg : Str → Option Value) (x : Str) (st : Stmt) : Prop := ∃ f fd, mg x = some (.ref f) ∧ Fun K x x st f fd
theorem gives_fun {P : Program} {w : World} {K : PySem.W.Frag} {mg : Str → Option Value} {base : Heap} {k : Nat} {x : Str} {st : Stmt} {N ps : List Str} {sp : Sp} (T : Stands K mg x st) (S : FnScope N ps (defScope st))
    (hb : ∀ (kV doc pm : Value) (an : Option Addr) (cdv ct : Value) (us : List Value), us.length = ps.length → bindArgs (PySem.W.fnOf x x (defArgs st) (defBody st) (defScope st) .none kV doc pm an cdv ct) ⟨us, []⟩ = pure (ps.zip us))
    (len : ∀ vs H Q E, sp vs H Q E → vs.length = ps.length)
    (hbody : ∀ (f : Addr) (cdv : Value) (A : Around) (outer : List Env) (s : Shared) (H : Hp) (vs : List V) (Q : VK) (E : XK), Room k (A.deeper (envOfC x (defScope st) s.heap.objs.size f cdv)) → sp vs H Q E →
      ∃ t, PSs (cxOf CX0 P w K mg base N x (defScope st) f cdv A outer s H E).nox (defBody st) t ∧ t { nx := fun _ H' => Q .non H', rt := Q } (start N vs) H) :
    Gives P w K mg base CX0 (k + 1) x sp := by
  obtain ⟨f, fd, hm, F⟩ := T
  exact gives_of hm F.kp (F.ok S len (hbody f)) (F.binds hb)
/-- def x(a, .., *v) -/
theorem gives_star {P : Program} {w : World} {K : PySem.W.Frag} {mg : Str → Option Value} {base : Heap} {k : Nat} {x pv : Str} {st : Stmt} {N ps : List Str} {sp : Sp} (T : Stands K mg x st) (S : FnScope N (ps ++ [pv]) (defScope st))
    (hb : ∀ (kV doc pm : Value) (an : Option Addr) (cdv ct : Value) (us rest : List Value), us.length = ps.length → bindArgs (PySem.W.fnOf x x (defArgs st) (defBody st) (defScope st) .none kV doc pm an cdv ct) ⟨us ++ rest, []⟩ = (newTuple rest >>= fun t => pure (ps.zip us ++ [(pv, t)])))
    (hbody : ∀ (f : Addr) (cdv : Value) (A : Around) (outer : List Env) (s : Shared) (H : Hp) (vs : List V) (Q : VK) (E : XK), Room k (A.deeper (envOfC x (defScope st) s.heap.objs.size f cdv)) → sp vs H Q E →
      ∃ t, PSs (cxOf CX0 P w K mg base N x (defScope st) f cdv A outer s H E).nox (defBody st) t ∧ t { nx := fun _ H' => Q .non H', rt := Q } (start N vs) H) :
    Gives P w K mg base CX0 (k + 1) x (fun vs H Q E => ∃ ws rest, vs = ws ++ rest ∧ ws.length = ps.length ∧ rest.length ≤ sizeLine ∧ ∀ p, H p = Option.none → sp (ws ++ [V.ref p]) (upd H p (.tup rest)) Q E) := by
  obtain ⟨f, fd, hm, F⟩ := T
  obtain ⟨oc, od, kV, doc, pm, an, cdv, ct, osl, rfl, lk, hcd⟩ := F.ex
  refine ⟨f, hm, F.kp, StX.fn_star lk hcd S StX.cxUp_none (hb kV doc pm an cdv ct) fun A outer s H vs Q E hr hsp => ?_⟩
  obtain ⟨t, h, q⟩ := hbody f cdv A outer s H vs Q E hr hsp
  exact ⟨t, h.nox, q⟩
theorem Gives.imp {P : Program} {w : World} {K : PySem.W.Frag} {mg : Str → Option Value} {base : Heap} {CX : CXT} {k : Nat} {x : Str} {sp sp' : Sp} (F : Gives P w K mg base CX k x sp) (h : ∀ vs H Q E, sp' vs H Q E → sp vs H Q E) : Gives P w K mg base CX k x sp' := by
  obtain ⟨f, hm, hk, F⟩ := F
  exact ⟨f, hm, hk, F.imp h⟩
/-! ### the operations -/
inductive Op where
  | add | sub | mul | div | rem | and | or | xor | shl | shr | lt | le | gt | ge | eq | ne | neg | not
  deriving DecidableEq
def Op.name : Op → Str
  | .add => "add" | .sub => "sub" | .mul => "mul" | .div => "div" | .rem => "rem" | .and => "and" | .or => "or" | .xor => "xor" | .shl => "shl" | .shr => "shr"
  | .lt => "lt" | .le => "le" | .gt => "gt" | .ge => "ge" | .eq => "eq" | .ne => "ne" | .neg => "neg" | .not => "not"
def Op.single : Op → Bool
  | .neg => true | .not => true | _ => false
def Wd (i : Int) : Prop := -2147483648 ≤ i ∧ i ≤ 2147483647
instance (i : Int) : Decidable (Wd i) := inferInstanceAs (Decidable (_ ∧ _))
def wrp (i : Int) : Int := (i - (-2147483648)) % 4294967296 + (-2147483648)
def ab (i : Int) : Int := if i < 0 then -i else i
def quo (i j : Int) : Int := if decide (i < 0) = decide (j < 0) then ab i / ab j else -(ab i / ab j)
def b2 (b : Bool) : Int := if b then 1 else 0
def cmpB : Op → Int → Int → Bool
  | .lt, a, b => decide (a < b) | .ge, a, b => !decide (a < b) | .le, a, b => decide (a ≤ b) | .gt, a, b => !decide (a ≤ b) | .eq, a, b => decide (a = b) | .ne, a, b => !decide (a = b)
  | _, _, _ => false
def Op.isCmp : Op → Bool
  | .lt => true | .le => true | .gt => true | .ge => true | .eq => true | .ne => true | _ => false
def Op.isBit : Op → Bool
  | .and => true | .or => true | .xor => true | .shl => true | .shr => true | _ => false
def bitI : Op → Int → Int → Int
  | .and, a, b => Builtin.bitAnd a b | .or, a, b => Builtin.bitOr a b | .xor, a, b => Builtin.bitXor a b
  | .shl, a, b => wrp (a * 2 ^ (b % 32).toNat) | _, a, b => a / 2 ^ (b % 32).toNat
/-- the result of an operation, None where it traps -/
def res : Op → Int → Int → V
  | .add, a, b => .int (wrp (a + b)) | .sub, a, b => .int (wrp (a - b)) | .mul, a, b => .int (wrp (a * b))
  | .div, a, b => if b = 0 then .non else .int (wrp (quo a b)) | .rem, a, b => if b = 0 then .non else .int (wrp (a - b * quo a b))
  | .neg, a, _ => .int (wrp (-a)) | .not, a, _ => .int (wrp (-a - 1))
  | .and, a, b => .int (Builtin.bitAnd a b) | .or, a, b => .int (Builtin.bitOr a b) | .xor, a, b => .int (Builtin.bitXor a b)
  | .shl, a, b => .int (wrp (a * 2 ^ (b % 32).toNat)) | .shr, a, b => .int (a / 2 ^ (b % 32).toNat)
  | o, a, b => .int (b2 (cmpB o a b))
/-! ### their promises -/
def spIsInt : Sp := fun vs H Q _ => ∃ i, vs = [.int i] ∧ Q (.bl true) H
def spIsWord : Sp := fun vs H Q _ => ∃ i, vs = [.int i] ∧ Q (.bl (decide (Wd i))) H
def spWrapped : Sp := fun vs H Q _ => ∃ i, vs = [.int i] ∧ Q (.int (wrp i)) H
def spQuot : Sp := fun vs H Q _ => ∃ i j, vs = [.int i, .int j] ∧ j ≠ 0 ∧ Wd j ∧ Q (.int (quo i j)) H
def spCompared : Sp := fun vs H Q _ => ∃ (o : Op) (a b : Int), vs = [.str o.name, .int a, .int b] ∧ o.isCmp = true ∧ ∀ H', Same H H' → Q (.bl (cmpB o a b)) H'
def spBits : Sp := fun vs H Q _ => ∃ (o : Op) (a b : Int), vs = [.str o.name, .int a, .int b] ∧ o.isBit = true ∧ Wd a ∧ Q (.int (bitI o a b)) H
def spResult : Sp := fun vs H Q _ => ∃ (o : Op) (a b : Int), vs = [.str o.name, .int a, .int b] ∧ Wd a ∧ Wd b ∧ ∀ H', Same H H' → Q (res o a b) H'
def spWrap : Sp := fun vs H Q _ => ∃ i, vs = [.int i] ∧ Q (.int (wrp i)) H
def spOperate : Sp := fun vs H Q _ => (∃ (o : Op) (a b : Int), vs = [.str o.name, .int a, .int b] ∧ o.single = false ∧ Wd a ∧ Wd b ∧ ∀ H', Same H H' → Q (res o a b) H') ∨
  ∃ (o : Op) (a : Int), vs = [.str o.name, .int a] ∧ o.single = true ∧ Wd a ∧ ∀ H', Same H H' → Q (res o a a) H'
def spOperateB : Sp := fun vs H Q _ => ∃ (o : Op) (p : Addr) (xs : List V), vs = [.str o.name, .ref p] ∧ H p = some (.tup xs) ∧ ((o.single = false ∧ ∃ a b : Int, xs = [.int a, .int b] ∧ Wd a ∧ Wd b ∧ ∀ H', Same H H' → Q (res o a b) H') ∨
  (o.single = true ∧ ∃ a : Int, xs = [.int a] ∧ Wd a ∧ ∀ H', Same H H' → Q (res o a a) H'))
theorem res_div {a b : Int} (h : b ≠ 0) : res .div a b = .int (wrp (quo a b)) := if_neg h
theorem res_rem {a b : Int} (h : b ≠ 0) : res .rem a b = .int (wrp (a - b * quo a b)) := if_neg h
theorem quo_wd {a b : Int} (ha : Wd a) : (quo a b).natAbs < 2 ^ 64 := by
  unfold quo
  have h : ab a / ab b ≤ 2147483648 ∧ 0 ≤ ab a / ab b := by
    have h1 : 0 ≤ ab a ∧ ab a ≤ 2147483648 := by
      unfold ab Wd at *
      split <;> omega
    have h2 : 0 ≤ ab b := by
      unfold ab
      split <;> omega
    have h3 := Int.ediv_nonneg h1.1 h2
    have h4 := Int.ediv_le_self (ab b) h1.1
    omega
  split <;> omega
end Cb

end

section
set_option maxHeartbeats 1000000
namespace Cb
open PySem PySem.Spec PyProof.Rows
theorem wrp_wd (i : Int) : Wd (wrp i) := by
  unfold Wd wrp
  omega
theorem wrp_id {i : Int} (h : Wd i) : wrp i = i := by
  unfold Wd at h
  unfold wrp
  omega
theorem wrp_ex (i : Int) : ∃ k : Int, wrp i = i + 4294967296 * k := ⟨-((i + 2147483648) / 4294967296), by unfold wrp; omega⟩
theorem wrp_of {i j : Int} (k : Int) (h : i = j + 4294967296 * k) : wrp i = wrp j := by
  subst h
  unfold wrp
  omega
theorem wrp_mul_r (a y : Int) : wrp (a * wrp y) = wrp (a * y) := by
  obtain ⟨k, e⟩ := wrp_ex y
  rw [e]
  exact wrp_of (a * k) (by rw [Int.mul_add, Int.mul_left_comm])
theorem wrp_mul_l (a y : Int) : wrp (wrp y * a) = wrp (y * a) := by
  rw [Int.mul_comm, wrp_mul_r, Int.mul_comm]
theorem wrp_add_r (a y : Int) : wrp (a + wrp y) = wrp (a + y) := by
  unfold wrp; omega
theorem wrp_add_l (a y : Int) : wrp (wrp y + a) = wrp (y + a) := by
  unfold wrp; omega
theorem wrp_sub_l (a y : Int) : wrp (wrp y - a) = wrp (y - a) := by
  unfold wrp; omega
theorem wrp_neg (y : Int) : wrp (-(wrp y)) = wrp (-y) := by
  unfold wrp; omega
theorem wrp_uniq {i j : Int} (hj : Wd j) (k : Int) (h : i = j + 4294967296 * k) : wrp i = j := by
  rw [wrp_of k h, wrp_id hj]
/-! sums -/
theorem ms5 (a b c : Int) : wrp (wrp (a + b) + c) = wrp (a + wrp (b + c)) := by rw [wrp_add_l, wrp_add_r, Int.add_assoc]
theorem ms6 (a b c : Int) : wrp (wrp (a * b) * c) = wrp (a * wrp (b * c)) := by rw [wrp_mul_l, wrp_mul_r, Int.mul_assoc]
theorem ms7 (a b c : Int) : wrp (a * wrp (b + c)) = wrp (wrp (a * b) + wrp (a * c)) := by rw [wrp_mul_r, wrp_add_l, wrp_add_r, Int.mul_add]
theorem ms8 (a b : Int) : wrp (a - b) = wrp (a + wrp (-b)) := by rw [wrp_add_r, Int.sub_eq_add_neg]
theorem ms10 {a : Int} (b : Int) (h : Wd a) : wrp (wrp (a + b) - b) = a := by
  rw [wrp_sub_l, show a + b - b = a by omega, wrp_id h]
theorem ms11 {a : Int} (h : Wd a) : wrp (-(wrp (-a))) = a := by
  rw [wrp_neg, Int.neg_neg, wrp_id h]
theorem ms12 (a : Int) : wrp (a + wrp (-a)) = 0 := by
  rw [wrp_add_r, show a + -a = 0 by omega]
  decide
theorem ms13 (a : Int) : wrp (a * -1) = wrp (-a) := by rw [Int.mul_neg, Int.mul_one]
theorem ms14 (a : Int) : wrp (-a) = wrp (0 - a) := by rw [Int.zero_sub]
/-! bits -/
abbrev band := Builtin.bitAnd
theorem tb_diff (i : Nat) : ∀ n k : Nat, (n - (n &&& k)).testBit i = (n.testBit i && !k.testBit i) := by
  induction i with
  | zero =>
    intro n k
    have h1 : (n &&& k) % 2 = (if n % 2 = 1 ∧ k % 2 = 1 then 1 else 0) := by
      have := Nat.testBit_and n k 0
      simp only [Nat.testBit_zero] at this
      rcases Nat.mod_two_eq_zero_or_one n with a | a <;> rcases Nat.mod_two_eq_zero_or_one k with b | b <;> rcases Nat.mod_two_eq_zero_or_one (n &&& k) with c | c <;> simp_all
    have h2 : (n &&& k) ≤ n := Nat.and_le_left
    simp only [Nat.testBit_zero]
    have h3 : (n - (n &&& k)) % 2 = 1 ↔ (n % 2 = 1 ∧ ¬ k % 2 = 1) := by
      split at h1 <;> omega
    by_cases c : (n - (n &&& k)) % 2 = 1
    · have := h3.mp c
      simp [c, this.1, this.2]
    · have d : ¬ (n % 2 = 1 ∧ ¬ k % 2 = 1) := fun z => c (h3.mpr z)
      by_cases e : n % 2 = 1
      · have f : k % 2 = 1 := Classical.byContradiction fun z => d ⟨e, z⟩
        simp [c, e, f]
      · simp [c, e]
  | succ i ih =>
    intro n k
    rw [Nat.testBit_succ, Nat.testBit_succ, Nat.testBit_succ, ← ih (n / 2) (k / 2)]
    congr 1
    have h0 : (n &&& k) / 2 = (n / 2) &&& (k / 2) := by
      rw [Nat.and_div_two]
    have h1 : (n &&& k) % 2 = (if n % 2 = 1 ∧ k % 2 = 1 then 1 else 0) := by
      have := Nat.testBit_and n k 0
      simp only [Nat.testBit_zero] at this
      rcases Nat.mod_two_eq_zero_or_one n with a | a <;> rcases Nat.mod_two_eq_zero_or_one k with b | b <;> rcases Nat.mod_two_eq_zero_or_one (n &&& k) with c | c <;> simp_all
    have h2 : (n &&& k) ≤ n := Nat.and_le_left
    rw [← h0]
    split at h1 <;> omega
/-- an int is a number or the not of one -/
theorem int_two (x : Int) : (∃ m : Nat, x = (m : Int)) ∨ ∃ m : Nat, x = -(m : Int) - 1 := by
  by_cases h : 0 ≤ x
  · exact .inl ⟨x.toNat, by omega⟩
  · exact .inr ⟨(-x - 1).toNat, by omega⟩
theorem band_pp (m n : Nat) : band m n = ((m &&& n : Nat) : Int) := by
  rw [band, bitAnd_pp (by omega) (by omega)]
  simp
theorem band_pn (m n : Nat) : band m (-(n : Int) - 1) = ((m - (m &&& n) : Nat) : Int) := by
  rw [band, bitAnd_pn (by omega) (by omega)]
  have h : (Builtin.bitNot (-(n : Int) - 1)).toNat = n := by
    unfold Builtin.bitNot
    omega
  rw [h]
  have : (m &&& n) ≤ m := Nat.and_le_left
  simp only [Int.toNat_natCast]
  omega
theorem band_np (m n : Nat) : band (-(m : Int) - 1) n = ((n - (n &&& m) : Nat) : Int) := by
  rw [band, bitAnd_comm]
  exact band_pn n m
theorem band_nn (m n : Nat) : band (-(m : Int) - 1) (-(n : Int) - 1) = -((m ||| n : Nat) : Int) - 1 := by
  rw [band, bitAnd_nn (by omega) (by omega)]
  have h : ∀ k : Nat, (Builtin.bitNot (-(k : Int) - 1)).toNat = k := fun k => by
    unfold Builtin.bitNot
    omega
  rw [h, h]
  rfl
theorem band_assoc (x y z : Int) : band (band x y) z = band x (band y z) := by
  rcases int_two x with ⟨m, rfl⟩ | ⟨m, rfl⟩ <;> rcases int_two y with ⟨n, rfl⟩ | ⟨n, rfl⟩ <;> rcases int_two z with ⟨k, rfl⟩ | ⟨k, rfl⟩ <;>
    simp only [band_pp, band_pn, band_np, band_nn] <;> (first | (congr 1; apply Nat.eq_of_testBit_eq) | (congr 1; congr 1; apply Nat.eq_of_testBit_eq) | (congr 1; congr 1; congr 1; apply Nat.eq_of_testBit_eq)) <;> intro i <;> simp only [Nat.testBit_and, Nat.testBit_or, tb_diff] <;>
    cases m.testBit i <;> cases n.testBit i <;> cases k.testBit i <;> rfl
theorem band_wd {a b : Int} (ha : Wd a) (hb : Wd b) : Wd (band a b) := by
  unfold Wd at *
  rcases int_two a with ⟨m, rfl⟩ | ⟨m, rfl⟩ <;> rcases int_two b with ⟨n, rfl⟩ | ⟨n, rfl⟩
  · rw [band_pp]
    have : (m &&& n) ≤ m := Nat.and_le_left
    omega
  · rw [band_pn]
    omega
  · rw [band_np]
    omega
  · rw [band_nn]
    have h : (m ||| n) < 2 ^ 31 := Nat.or_lt_two_pow (by omega) (by omega)
    omega
theorem bor_eq (a b : Int) : Builtin.bitOr a b = a + b - band a b := bitOr_and a b
theorem bxor_eq (a b : Int) : Builtin.bitXor a b = a + b - 2 * band a b := bitXor_and a b
theorem band_not (a b : Int) : band a (-b - 1) = a - band a b := bitAnd_not a b
theorem band_cm (a b : Int) : band a b = band b a := bitAnd_comm a b
theorem band_self (a : Int) : band a a = a := bitAnd_self a
theorem not_wd {a : Int} (ha : Wd a) : Wd (-a - 1) := by
  unfold Wd at *
  omega
theorem bor_wd {a b : Int} (ha : Wd a) (hb : Wd b) : Wd (Builtin.bitOr a b) := by
  have h := band_wd (not_wd ha) (not_wd hb)
  have e : Builtin.bitOr a b = -(band (-a - 1) (-b - 1)) - 1 := rfl
  rw [e]
  exact not_wd h
theorem bor_band (a b : Int) : Builtin.bitOr a b = -(band (-a - 1) (-b - 1)) - 1 := rfl
theorem band_abs (a b : Int) : band a (band a b) = band a b := by rw [← band_assoc, band_self]
theorem band_or (a b : Int) : band a (Builtin.bitOr a b) = a := by
  rw [bor_band, band_not, ← band_assoc, band_not a a, band_self, Int.sub_self]
  have h : ∀ x : Int, band 0 x = 0 := fun x => by
    rw [band_cm]
    exact bitAnd_zero x
  rw [h]
  omega
theorem bxor_band (a b : Int) : Builtin.bitXor a b = band (Builtin.bitOr a b) (-(band a b) - 1) := by
  rw [band_not, show band (Builtin.bitOr a b) (band a b) = band a b by rw [← band_assoc, band_cm (Builtin.bitOr a b) a, band_or]]
  rfl
theorem bxor_wd {a b : Int} (ha : Wd a) (hb : Wd b) : Wd (Builtin.bitXor a b) := by
  rw [bxor_band]
  exact band_wd (bor_wd ha hb) (not_wd (band_wd ha hb))
theorem band_xor (a b : Int) : band a (Builtin.bitXor a b) = a - band a b := by
  rw [bxor_band, ← band_assoc, band_or, band_not, band_abs]
theorem bor_cm (a b : Int) : Builtin.bitOr a b = Builtin.bitOr b a := bitOr_comm a b
theorem bxor_cm (a b : Int) : Builtin.bitXor a b = Builtin.bitXor b a := by rw [bxor_eq, bxor_eq, band_cm, Int.add_comm]
theorem bxor_xor (a b : Int) : Builtin.bitXor (Builtin.bitXor a b) b = a := by
  rw [bxor_eq (Builtin.bitXor a b) b, band_cm, bxor_cm a b, band_xor, bxor_eq]
  have := band_cm a b
  omega
theorem mb1 {a b : Int} (ha : Wd a) (hb : Wd b) : Builtin.bitXor a b = wrp (Builtin.bitOr a b - Builtin.bitAnd a b) := (wrp_id (bxor_wd ha hb)).symm
theorem mb2 (a b : Int) : wrp (Builtin.bitAnd a b + Builtin.bitOr a b) = wrp (a + b) := by
  rw [bor_eq]
  congr 1
  show band a b + (a + b - band a b) = a + b
  omega
theorem wnot {a : Int} (ha : Wd a) : wrp (-a - 1) = -a - 1 := wrp_id (not_wd ha)
theorem mb3 {a b : Int} (ha : Wd a) (hb : Wd b) : wrp (-(Builtin.bitAnd a b) - 1) = Builtin.bitOr (wrp (-a - 1)) (wrp (-b - 1)) := by
  rw [wnot ha, wnot hb, wnot (band_wd ha hb), bor_band]
  rw [show -(-a - 1) - 1 = a by omega, show -(-b - 1) - 1 = b by omega]
theorem mb4 (a : Int) : wrp (-a - 1) = wrp (-1 - a) := by
  rw [show -a - 1 = -1 - a by omega]
theorem mb6 {a : Int} (ha : Wd a) : wrp (-(wrp (-a - 1)) - 1) = a := by
  rw [wnot ha, wnot (not_wd ha)]
  omega
theorem mb8 (a b : Int) : Builtin.bitOr a (Builtin.bitAnd a b) = a := by
  rw [bor_eq, show band a (Builtin.bitAnd a b) = band a b from band_abs a b]
  show a + band a b - band a b = a
  omega
theorem mb9 (a : Int) : Builtin.bitXor a a = 0 := by
  rw [bxor_eq, band_self]
  omega
theorem mb10 {a b : Int} (hb : Wd b) : Builtin.bitAnd a (Builtin.bitXor a b) = Builtin.bitAnd a (wrp (-b - 1)) := by
  rw [wnot hb]
  show band a (Builtin.bitXor a b) = band a (-b - 1)
  rw [band_xor, band_not]
end Cb

end

section
set_option maxHeartbeats 1000000
namespace Cb
open PySem PySem.Spec PyProof.Rows
theorem by31 (b : Int) : Builtin.bitAnd b 31 = b % 32 := bitAnd_m5 b
theorem wd_mod (b : Int) : Wd (b % 32) := by
  unfold Wd
  omega
theorem mod_mod (b : Int) : b % 32 % 32 = b % 32 := by omega
theorem p2 (s : Nat) : (0 : Int) < 2 ^ s := Int.pow_pos (by decide)
theorem shl_mul (a b : Int) : wrp (a * 2 ^ (b % 32).toNat) = wrp (a * wrp (1 * 2 ^ (b % 32).toNat)) := by rw [wrp_mul_r, Int.one_mul]
theorem fl_not (a d : Int) (h : 0 < d) : (-a - 1) / d = -(a / d) - 1 := by
  have h1 := Int.mul_ediv_add_emod a d
  have h2 := Int.emod_nonneg a (Int.ne_of_gt h)
  have h3 := Int.emod_lt_of_pos a h
  have e : -a - 1 = (d - 1 - a % d) + (-(a / d) - 1) * d := by
    rw [Int.sub_mul, Int.neg_mul, Int.mul_comm (a / d) d]
    omega
  rw [e, Int.add_mul_ediv_right _ _ (Int.ne_of_gt h), Int.ediv_eq_zero_of_lt (by omega) (by omega)]
  omega
theorem shr_wd {a : Int} (ha : Wd a) (s : Nat) : Wd (a / 2 ^ s) := by
  have h := p2 s
  unfold Wd at *
  by_cases c : 0 ≤ a
  · have h1 := Int.ediv_nonneg c (Int.le_of_lt h)
    have h2 := Int.ediv_le_self (2 ^ s) c
    omega
  · have h0 : a = -(-a - 1) - 1 := by omega
    have h1 := Int.ediv_nonneg (show 0 ≤ -a - 1 by omega) (Int.le_of_lt h)
    have h2 := Int.ediv_le_self (2 ^ s) (show 0 ≤ -a - 1 by omega)
    rw [h0, fl_not _ _ h]
    omega
theorem shr_not {a : Int} (ha : Wd a) (b : Int) : wrp (-a - 1) / 2 ^ (b % 32).toNat = wrp (-(a / 2 ^ (b % 32).toNat) - 1) := by
  rw [wnot ha, wnot (shr_wd ha _), fl_not _ _ (p2 _)]
theorem shr_back {a : Int} (ha : Wd a) (s : Nat) (hs : s ≤ 31) : wrp (a / 2 ^ s * 2 ^ s) / 2 ^ s = a / 2 ^ s := by
  have h := p2 s
  have w : Wd (a / 2 ^ s * 2 ^ s) := by
    have h1 := Int.mul_ediv_add_emod a (2 ^ s)
    have h2 := Int.emod_nonneg a (Int.ne_of_gt h)
    have h3 := Int.emod_lt_of_pos a h
    rw [Int.mul_comm] at h1
    have h4 : (-2147483648 : Int) / 2 ^ s * 2 ^ s = -2147483648 := Int.ediv_mul_cancel (by
      have : (2147483648 : Int) = 2 ^ s * 2 ^ (31 - s) := by
        rw [← Int.pow_add, show s + (31 - s) = 31 by omega]
        decide
      exact ⟨-2 ^ (31 - s), by rw [Int.mul_neg, ← this]⟩)
    have h5 : (-2147483648 : Int) / 2 ^ s ≤ a / 2 ^ s := Int.ediv_le_ediv h ha.1
    have h6 := Int.mul_le_mul_of_nonneg_right h5 (Int.le_of_lt h)
    rw [h4] at h6
    unfold Wd at *
    omega
  rw [wrp_id w, Int.mul_ediv_cancel _ (Int.ne_of_gt h)]
/-! quotients -/
theorem ab_nn (i : Int) : 0 ≤ ab i := by
  unfold ab
  split <;> omega
theorem ab_pos {i : Int} (h : i ≠ 0) : 0 < ab i := by
  unfold ab
  split <;> omega
theorem quo_rest (a b : Int) (hb : b ≠ 0) : ∃ q r : Int, quo a b = q ∧ a - b * q = r ∧ ab r < ab b ∧ (r ≠ 0 → (r < 0 ↔ a < 0)) ∧ ab q ≤ ab a ∧ (q < 0 → decide (a < 0) ≠ decide (b < 0)) := by
  have h1 := Int.mul_ediv_add_emod (ab a) (ab b)
  have h2 := Int.emod_nonneg (ab a) (Int.ne_of_gt (ab_pos hb))
  have h3 := Int.emod_lt_of_pos (ab a) (ab_pos hb)
  have h4 := Int.ediv_nonneg (ab_nn a) (ab_nn b)
  have h5 := Int.ediv_le_self (ab b) (ab_nn a)
  refine ⟨_, _, rfl, rfl, ?_⟩
  by_cases ca : a < 0 <;> by_cases cb : b < 0
  · have ea : ab a = -a := if_pos ca
    have eb : ab b = -b := if_pos cb
    have eq : quo a b = ab a / ab b := by
      unfold quo
      rw [if_pos (by simp [ca, cb])]
    rw [eq]
    generalize ab a / ab b = q at *
    generalize ab a % ab b = r at *
    rw [ea, eb] at h1
    rw [eb] at h3
    rw [ea] at h5
    have e : a - b * q = -r := by
      rw [Int.neg_mul] at h1
      omega
    rw [e, eb, ea]
    exact ⟨by unfold ab; split <;> omega, by intro _; omega, by unfold ab; split <;> omega, by intro h; exfalso; omega⟩
  · have ea : ab a = -a := if_pos ca
    have eb : ab b = b := if_neg cb
    have eq : quo a b = -(ab a / ab b) := by
      unfold quo
      rw [if_neg (by simp [ca, cb])]
    rw [eq]
    generalize ab a / ab b = q at *
    generalize ab a % ab b = r at *
    rw [ea, eb] at h1
    rw [eb] at h3
    rw [ea] at h5
    have e : a - b * -q = -r := by
      rw [Int.mul_neg]
      omega
    rw [e, eb, ea]
    exact ⟨by unfold ab; split <;> omega, by intro _; omega, by unfold ab; split <;> omega, by intro _; simp [ca, cb]⟩
  · have ea : ab a = a := if_neg ca
    have eb : ab b = -b := if_pos cb
    have eq : quo a b = -(ab a / ab b) := by
      unfold quo
      rw [if_neg (by simp [ca, cb])]
    rw [eq]
    generalize ab a / ab b = q at *
    generalize ab a % ab b = r at *
    rw [ea, eb] at h1
    rw [eb] at h3
    rw [ea] at h5
    have e : a - b * -q = r := by
      rw [Int.mul_neg]
      rw [Int.neg_mul] at h1
      omega
    rw [e, eb, ea]
    exact ⟨by unfold ab; split <;> omega, by intro _; omega, by unfold ab; split <;> omega, by intro _; simp [ca, cb]⟩
  · have ea : ab a = a := if_neg ca
    have eb : ab b = b := if_neg cb
    have eq : quo a b = ab a / ab b := by
      unfold quo
      rw [if_pos (by simp [ca, cb])]
    rw [eq]
    generalize ab a / ab b = q at *
    generalize ab a % ab b = r at *
    rw [ea, eb] at h1
    rw [eb] at h3
    rw [ea] at h5
    have e : a - b * q = r := by
      omega
    rw [e, eb, ea]
    exact ⟨by unfold ab; split <;> omega, by intro _; omega, by unfold ab; split <;> omega, by intro h; exfalso; omega⟩
theorem rest_wd {a b : Int} (hb : b ≠ 0) (wb : Wd b) : Wd (a - b * quo a b) := by
  obtain ⟨q, r, e1, e2, h, _⟩ := quo_rest a b hb
  rw [e1, e2]
  unfold ab Wd at *
  split at h <;> split at h <;> omega
theorem mp1 {a b : Int} (wa : Wd a) (hb : b ≠ 0) (wb : Wd b) : wrp (wrp (wrp (quo a b) * b) + wrp (a - b * quo a b)) = a := by
  rw [wrp_mul_l, wrp_add_l, wrp_add_r, Int.mul_comm]
  rw [show b * quo a b + (a - b * quo a b) = a by omega, wrp_id wa]
theorem mp2 {a b : Int} (hb : b ≠ 0) (wb : Wd b) : ¬ (ab (wrp (a - b * quo a b)) ≥ ab b) := by
  rw [wrp_id (rest_wd hb wb)]
  obtain ⟨q, r, e1, e2, h, _⟩ := quo_rest a b hb
  rw [e1, e2]
  omega
theorem mp3 {a b : Int} (hb : b ≠ 0) (wb : Wd b) (h : wrp (a - b * quo a b) ≠ 0) : decide (wrp (a - b * quo a b) < 0) = decide (a < 0) := by
  rw [wrp_id (rest_wd hb wb)] at h ⊢
  obtain ⟨q, r, e1, e2, _, h2, _⟩ := quo_rest a b hb
  rw [e1, e2] at h ⊢
  exact decide_eq_decide.mpr (h2 h)
theorem quo_neg (a b : Int) (hb : b ≠ 0) : quo a (-b) = -(quo a b) := by
  unfold quo
  have e : ab (-b) = ab b := by
    unfold ab
    split <;> split <;> omega
  rw [e]
  by_cases ca : a < 0 <;> by_cases cb : b < 0
  all_goals
    have cn : decide (-b < 0) = !decide (b < 0) := by
      by_cases c : b < 0
      · rw [decide_eq_true c, decide_eq_false (by omega)]
        rfl
      · rw [decide_eq_false c, decide_eq_true (by omega)]
        rfl
    rw [cn]
    simp [ca, cb]
theorem neg_wd {b : Int} (wb : Wd b) (h : b ≠ -2147483648) : wrp (-b) = -b := wrp_id (by unfold Wd at *; omega)
theorem mp4 {a b : Int} (hb : b ≠ 0) (wb : Wd b) (h : b ≠ -2147483648) : wrp (a - wrp (-b) * quo a (wrp (-b))) = wrp (a - b * quo a b) := by
  rw [neg_wd wb h, quo_neg a b hb, Int.neg_mul_neg]
theorem mp5 {a b : Int} (hb : b ≠ 0) (wb : Wd b) (h : b ≠ -2147483648) : wrp (quo a (wrp (-b))) = wrp (-(wrp (quo a b))) := by
  rw [neg_wd wb h, quo_neg a b hb, wrp_neg]
theorem wneg_ne {b : Int} (hb : b ≠ 0) (wb : Wd b) : wrp (-b) ≠ 0 := by
  unfold wrp Wd at *
  omega
theorem quo1 (a : Int) : quo a 1 = a := by
  have e : ab 1 = 1 := by decide
  unfold quo
  rw [e, Int.ediv_one]
  unfold ab
  by_cases c : a < 0
  · simp [c]
  · simp [c]
theorem mp6 {a : Int} (wa : Wd a) : wrp (quo a 1) = a := by rw [quo1, wrp_id wa]
theorem mp7 (a : Int) : wrp (a - 1 * quo a 1) = 0 := by
  rw [quo1, Int.one_mul, Int.sub_self]
  decide
theorem mp8 (a : Int) : wrp (quo a (-1)) = wrp (-a) := by rw [quo_neg a 1 (by decide), quo1]
/-! comparisons -/
theorem b2_wd (c : Bool) : Wd (b2 c) := by
  cases c <;> decide
theorem mo_or (c d : Bool) : Builtin.bitOr (b2 c) (b2 d) = b2 (c || d) := by
  cases c <;> cases d <;> decide
theorem mo_and (c d : Bool) : Builtin.bitAnd (b2 c) (b2 d) = b2 (c && d) := by
  cases c <;> cases d <;> decide
theorem mo_xor1 (c : Bool) : Builtin.bitXor (b2 c) 1 = b2 (!c) := by
  cases c <;> decide
theorem mo1 (a b : Int) : b2 (decide (a ≤ b)) = Builtin.bitOr (b2 (decide (a < b))) (b2 (decide (a = b))) := by
  rw [mo_or]
  congr 1
  rw [Bool.eq_iff_iff]
  simp
  omega
theorem mo2 (a b : Int) : b2 (!decide (a ≤ b)) = Builtin.bitXor (Builtin.bitOr (b2 (decide (a < b))) (b2 (decide (a = b)))) 1 := by
  rw [← mo1, mo_xor1]
theorem mo5 (a b : Int) : b2 (decide (b < a)) = b2 (!decide (a ≤ b)) := by
  congr 1
  rw [Bool.eq_iff_iff]
  simp
theorem mo6 (a b : Int) : Builtin.bitAnd (b2 (decide (a < b))) (b2 (decide (a = b))) = 0 := by
  rw [mo_and]
  have : (decide (a < b) && decide (a = b)) = false := by
    rw [Bool.eq_false_iff]
    simp
    omega
  rw [this]
  rfl
theorem mo9 (a b c : Int) : Builtin.bitAnd (Builtin.bitAnd (b2 (decide (a < b))) (b2 (decide (b < c)))) (b2 (!decide (a < c))) = 0 := by
  rw [mo_and, mo_and]
  have : ((decide (a < b) && decide (b < c)) && !decide (a < c)) = false := by
    rw [Bool.eq_false_iff]
    simp
    omega
  rw [this]
  rfl
end Cb

end

section
set_option maxRecDepth 100000
set_option maxHeartbeats 4000000
namespace Cb
open PySem PySem.Spec PyProof.Rows L2
def Bt (i : Int) : Prop := Builtin.Int.intBits i ≤ 1048576
/-- a pool stands at p -/
def PoolAt (H : Hp) (p : Addr) : Prop := ∃ s d n : Int, H p = some (.lst [.int s, .int d, .int n]) ∧ 0 ≤ s ∧ s < 2147483269 ∧ 0 ≤ d
def spCell (K : PySem.W.Frag) : Sp := fun vs H Q _ => ∃ (a : Addr) (ns : List Int) (k : Int), vs = [.ref a, .int k] ∧ SqL K H a (ns.map V.int) ∧ ns.length ≤ 63 ∧ 0 ≤ k ∧ k ≤ 1000 ∧ ∀ H' r, Same H H' → Q (.int r) H'
def spPool : Sp := fun vs H Q _ => ∃ i, vs = [.int i] ∧ ∀ H' p, Same H H' → H p = none → PoolAt H' p → Q (.ref p) H'
def spDraw : Sp := fun vs H Q _ => ∃ (p : Addr) (m : Int), vs = [.ref p, .int m] ∧ PoolAt H p ∧ 0 < m ∧ m < 2 ^ 200 ∧ ∀ H' r, SameBut p H H' → PoolAt H' p → 0 ≤ r → r < m → Q (.int r) H'
def spFigure : Sp := fun vs H Q _ => ∃ p, vs = [.ref p] ∧ PoolAt H p ∧ ∀ H' r, SameBut p H H' → PoolAt H' p → Wd r → Q (.int r) H'
/-- a def that answers True, whatever its pool draws -/
def spRight : Sp := fun vs H Q _ => ∃ p, vs = [.ref p] ∧ PoolAt H p ∧ ∀ H', SameBut p H H' → PoolAt H' p → Q (.bl true) H'
def spLaw (K : PySem.W.Frag) : Sp := fun vs H Q _ => ∃ (a : Addr) (ns : List Int), vs = [.ref a] ∧ SqL K H a (ns.map V.int) ∧ ns.length ≤ 63 ∧ (∀ z ∈ ns, Builtin.Int.intBits z ≤ 1048576) ∧ ∀ H', Q (.bl true) H'
theorem divp_small {i j : Int} (h : 0 < j) (h2 : j < 2 ^ 200) : CDivP i j := by
  refine ⟨h, ?_⟩
  unfold Builtin.divisionGoesByPylong
  have h3 : j.natAbs.log2 < 200 := by
    have h4 : j.natAbs < 2 ^ 200 := by omega
    exact (Nat.log2_lt (by omega)).mpr h4
  have h5 : (j == 0) = false := by
    simp
    omega
  have h6 : ¬ (j.natAbs.log2 / 30 + 1 > 300) := by omega
  simp [h5]
  intro h7
  omega
theorem PoolAt.sq {K : PySem.W.Frag} {H : Hp} {p : Addr} (h : PoolAt H p) : ∃ xs, SqL K H p xs := by
  obtain ⟨s, d, n, e, _⟩ := h
  exact ⟨_, .inl (.inl e)⟩
theorem PoolAt.same {H H' : Hp} {p : Addr} (h : PoolAt H p) (s : Same H H') : PoolAt H' p := by
  obtain ⟨x, d, n, e, r⟩ := h
  exact ⟨x, d, n, s _ _ e, r⟩
theorem PoolAt.ne {H : Hp} {p q : Addr} (h : PoolAt H p) (e : H q = none) : p ≠ q := by
  obtain ⟨x, d, n, e2, r⟩ := h
  exact ne_of_none e2 e
theorem SameBut.at {a b : Addr} {H H' : Hp} {o : HO} (s : SameBut a H H') (h : H b = some o) (n : b ≠ a) : H' b = some o := s b o n h
/-- an item of a written list of ints at a drawn place -/
theorem at_ints {P : Int → Prop} (ns : List Int) (h : ∀ x ∈ ns, P x) {r : Int} (h0 : 0 ≤ r) (h1 : r < (ns.length : Int)) : ∃ v, atI (ns.map V.int) r = some (.int v) ∧ P v := by
  have hk : r.toNat < ns.length := by omega
  have er : r = ((r.toNat : Nat) : Int) := by omega
  have q : atI (ns.map V.int) ((r.toNat : Nat) : Int) = some (.int ns[r.toNat]) := atI_nat (by rw [List.getElem?_map, List.getElem?_eq_getElem hk] <;> rfl)
  rw [← er] at q
  exact ⟨_, q, h _ (List.getElem_mem hk)⟩
theorem ne_false {x y : V} (h : x = y) : (!decide (x = y)) = false := by
  rw [decide_eq_true h]
  rfl
theorem eq_true {x y : V} (h : x = y) : decide (x = y) = true := decide_eq_true h
theorem ne_falseI {x y : Int} (h : x = y) : (!decide (V.int x = V.int y)) = false := ne_false (congrArg V.int h)
theorem eq_trueI {x y : Int} (h : x = y) : decide (V.int x = V.int y) = true := decide_eq_true (congrArg V.int h)
end Cb

end

section
set_option maxRecDepth 100000
set_option maxHeartbeats 4000000
namespace Cb
open PySem PySem.Spec PyProof.Rows L2
section
variable {K : PySem.W.Frag} {h : Heap} {mg : Str → Option Value} {x : Str}
theorem stands_mk {st : Stmt} {f : Addr} {od an : Option Addr} {sl : Array (Option Value)} {oc kV dc pm cd ct : Value} (X : K.In h) (G : h.Ns mainGlobals mg) (a : PySem.W.nsIn K mainGlobals x = some (some (.ref f)))
    (l : K.lookup f = some ⟨oc, od, .func (PySem.W.fnOf x x (defArgs st) (defBody st) (defScope st) .none kV dc pm an cd ct), sl⟩) (c : PySem.W.codeIn K cd x = true) (k : PySem.W.keepIn K (.ref f) = true) : Stands K mg x st :=
  ⟨f, _, PySem.W.mg_of X G a, fun_mk (st := st) l c k⟩
theorem globi_mk {i : Int} {t : Tok} (X : K.In h) (G : h.Ns mainGlobals mg) (a : PySem.W.nsIn K mainGlobals x = some (some (.int i t))) : GlobV mg x (.int i) := ⟨_, PySem.W.mg_of X G a, ⟨t, rfl⟩⟩
theorem globs_mk {s : Str} {t : Tok} (X : K.In h) (G : h.Ns mainGlobals mg) (a : PySem.W.nsIn K mainGlobals x = some (some (.str s t))) : GlobV mg x (.str s) := ⟨_, PySem.W.mg_of X G a, ⟨t, rfl⟩⟩
theorem globt_mk {p : Addr} {od : Option Addr} {its : Array Value} {n : Nat} {sl : Array (Option Value)} {xs : List V} (X : K.In h) (G : h.Ns mainGlobals mg) (a : PySem.W.nsIn K mainGlobals x = some (some (.ref p)))
    (l : K.lookup p = some ⟨.type "tuple", od, .seq its n, sl⟩) (v : Vals xs its.toList) (z : xs.length ≤ sizeLine) : GlobT K mg x xs :=
  ⟨p, PySem.W.mg_of X G a, fun H => .inr ⟨_, its, n, l, rfl, rfl, by
    have e := v.length
    have e2 : its.toList.length = its.size := Array.length_toList
    rw [e2] at e
    rw [← e]
    exact z, v⟩⟩
end
theorem Fun.bindsAll {K : PySem.W.Frag} {x qual p : Str} {st : Stmt} {f : Addr} {fd : FuncData} (F : Fun K x qual st f fd)
    (h : ∀ (kV doc pm : Value) (an : Option Addr) (cdv ct : Value) (v : Value), bindArgs (PySem.W.fnOf x qual (defArgs st) (defBody st) (defScope st) .none kV doc pm an cdv ct) ⟨[v], []⟩ = pure [(p, v)]) (s : Shared) (v : Value) : BindsTo s fd ⟨[v], []⟩ [(p, v)] := by
  obtain ⟨oc, od, kV, doc, pm, an, cdv, ct, osl, rfl, lk, hcd⟩ := F.ex
  exact .of_eq (h kV doc pm an cdv ct v)
end Cb

end

section
set_option maxRecDepth 100000
set_option maxHeartbeats 4000000
namespace Cb
open PySem PySem.Spec PyProof.Rows L2
def topS (i : Nat) : Stmt := PySem.Challenge.pw_codeback_k03_whole_operations_by_rules.main.body.getD i (.Pass ⟨0, 0, 0, 0⟩)
abbrev s_is_integer : Stmt := topS 10
abbrev s_is_word : Stmt := topS 11
abbrev s_wrapped : Stmt := topS 12
abbrev s_quotient_of : Stmt := topS 13
abbrev s_compared : Stmt := topS 14
abbrev s_bits_of : Stmt := topS 15
abbrev s_result_of : Stmt := topS 16
abbrev s_wrap : Stmt := topS 17
abbrev s_operate : Stmt := topS 18
abbrev s_law_cell : Stmt := topS 20
abbrev s_law_pool : Stmt := topS 21
abbrev s_law_draw : Stmt := topS 22
abbrev s_law_figure : Stmt := topS 23
abbrev s_law_is_word : Stmt := topS 24
abbrev s_law_sums_right : Stmt := topS 25
abbrev s_law_bits_right : Stmt := topS 26
abbrev s_law_shifts_right : Stmt := topS 27
abbrev s_law_parts_right : Stmt := topS 28
abbrev s_law_orders_right : Stmt := topS 29
abbrev s_law_right : Stmt := topS 30
abbrev s_law : Stmt := topS 31
theorem sc_is_integer : FnScope ["value"] ["value"] (defScope s_is_integer) := ⟨rfl, rfl, rfl, by decide +kernel, rfl, by decide +kernel, by decide +kernel⟩
theorem sc_is_word : FnScope ["value"] ["value"] (defScope s_is_word) := ⟨rfl, rfl, rfl, by decide +kernel, rfl, by decide +kernel, by decide +kernel⟩
theorem sc_wrapped : FnScope ["number"] ["number"] (defScope s_wrapped) := ⟨rfl, rfl, rfl, by decide +kernel, rfl, by decide +kernel, by decide +kernel⟩
theorem sc_quotient_of : FnScope ["one", "other", "quotient"] ["one", "other"] (defScope s_quotient_of) := ⟨rfl, rfl, rfl, by decide +kernel, rfl, by decide +kernel, by decide +kernel⟩
theorem sc_compared : FnScope ["operation", "one", "other"] ["operation", "one", "other"] (defScope s_compared) := ⟨rfl, rfl, rfl, by decide +kernel, rfl, by decide +kernel, by decide +kernel⟩
theorem sc_bits_of : FnScope ["operation", "one", "other", "places"] ["operation", "one", "other"] (defScope s_bits_of) := ⟨rfl, rfl, rfl, by decide +kernel, rfl, by decide +kernel, by decide +kernel⟩
theorem sc_result_of : FnScope ["operation", "one", "other", "quotient"] ["operation", "one", "other"] (defScope s_result_of) := ⟨rfl, rfl, rfl, by decide +kernel, rfl, by decide +kernel, by decide +kernel⟩
theorem sc_wrap : FnScope ["number"] ["number"] (defScope s_wrap) := ⟨rfl, rfl, rfl, by decide +kernel, rfl, by decide +kernel, by decide +kernel⟩
theorem sc_operate : FnScope ["operation", "words", "index", "word"] ["operation", "words"] (defScope s_operate) := ⟨rfl, rfl, rfl, by decide +kernel, rfl, by decide +kernel, by decide +kernel⟩
theorem sc_law_cell : FnScope ["_law_script", "_law_k", "_law_state", "_law_figure_here"] ["_law_script", "_law_k"] (defScope s_law_cell) := ⟨rfl, rfl, rfl, by decide +kernel, rfl, by decide +kernel, by decide +kernel⟩
theorem sc_law_pool : FnScope ["_law_figure_here", "_law_digits"] ["_law_figure_here"] (defScope s_law_pool) := ⟨rfl, rfl, rfl, by decide +kernel, rfl, by decide +kernel, by decide +kernel⟩
theorem sc_law_draw : FnScope ["_law_pool_here", "_law_most", "_law_state", "_law_digit"] ["_law_pool_here", "_law_most"] (defScope s_law_draw) := ⟨rfl, rfl, rfl, by decide +kernel, rfl, by decide +kernel, by decide +kernel⟩
theorem sc_law_figure : FnScope ["_law_pool_here", "_law_some"] ["_law_pool_here"] (defScope s_law_figure) := ⟨rfl, rfl, rfl, by decide +kernel, rfl, by decide +kernel, by decide +kernel⟩
theorem sc_law_is_word : FnScope ["_law_thing"] ["_law_thing"] (defScope s_law_is_word) := ⟨rfl, rfl, rfl, by decide +kernel, rfl, by decide +kernel, by decide +kernel⟩
theorem sc_law_sums_right : FnScope ["_law_a", "_law_b", "_law_c", "_law_total", "_law_grown"] ["_law_a", "_law_b", "_law_c"] (defScope s_law_sums_right) := ⟨rfl, rfl, rfl, by decide +kernel, rfl, by decide +kernel, by decide +kernel⟩
theorem sc_law_bits_right : FnScope ["_law_a", "_law_b", "_law_c", "_law_both", "_law_any_bits", "_law_unlike"] ["_law_a", "_law_b", "_law_c"] (defScope s_law_bits_right) := ⟨rfl, rfl, rfl, by decide +kernel, rfl, by decide +kernel, by decide +kernel⟩
theorem sc_law_shifts_right : FnScope ["_law_a", "_law_b", "_law_by"] ["_law_a", "_law_b"] (defScope s_law_shifts_right) := ⟨rfl, rfl, rfl, by decide +kernel, rfl, by decide +kernel, by decide +kernel⟩
theorem sc_law_parts_right : FnScope ["_law_a", "_law_b", "_law_part", "_law_rest"] ["_law_a", "_law_b"] (defScope s_law_parts_right) := ⟨rfl, rfl, rfl, by decide +kernel, rfl, by decide +kernel, by decide +kernel⟩
theorem sc_law_orders_right : FnScope ["_law_a", "_law_b", "_law_c", "_law_less", "_law_equal", "_law_either"] ["_law_a", "_law_b", "_law_c"] (defScope s_law_orders_right) := ⟨rfl, rfl, rfl, by decide +kernel, rfl, by decide +kernel, by decide +kernel⟩
theorem sc_law_right : FnScope ["_law_pool_here", "_law_turn", "_law_a", "_law_b", "_law_c", "_law_way", "_law_some", "_law_each", "_law_thing"] ["_law_pool_here"] (defScope s_law_right) := ⟨rfl, rfl, rfl, by decide +kernel, rfl, by decide +kernel, by decide +kernel⟩
theorem sc_law : FnScope ["_law_script", "_law_k"] ["_law_script"] (defScope s_law) := ⟨rfl, rfl, rfl, by decide +kernel, rfl, by decide +kernel, by decide +kernel⟩
/-- what the top has left -/
structure Txt (K : PySem.W.Frag) (mg : Str → Option Value) : Prop where
  d_is_integer : Stands K mg "is_integer" s_is_integer
  d_is_word : Stands K mg "is_word" s_is_word
  d_wrapped : Stands K mg "wrapped" s_wrapped
  d_quotient_of : Stands K mg "quotient_of" s_quotient_of
  d_compared : Stands K mg "compared" s_compared
  d_bits_of : Stands K mg "bits_of" s_bits_of
  d_result_of : Stands K mg "result_of" s_result_of
  d_wrap : Stands K mg "wrap" s_wrap
  d_operate : Stands K mg "operate" s_operate
  d_law_cell : Stands K mg "_law_cell" s_law_cell
  d_law_pool : Stands K mg "_law_pool" s_law_pool
  d_law_draw : Stands K mg "_law_draw" s_law_draw
  d_law_figure : Stands K mg "_law_figure" s_law_figure
  d_law_is_word : Stands K mg "_law_is_word" s_law_is_word
  d_law_sums_right : Stands K mg "_law_sums_right" s_law_sums_right
  d_law_bits_right : Stands K mg "_law_bits_right" s_law_bits_right
  d_law_shifts_right : Stands K mg "_law_shifts_right" s_law_shifts_right
  d_law_parts_right : Stands K mg "_law_parts_right" s_law_parts_right
  d_law_orders_right : Stands K mg "_law_orders_right" s_law_orders_right
  d_law_right : Stands K mg "_law_right" s_law_right
  d_law : Stands K mg "law" s_law
  n_isinstance : mg "isinstance" = none
  n_int : mg "int" = none
  n_bool : mg "bool" = none
  n_str : mg "str" = none
  n_abs : mg "abs" = none
  n_len : mg "len" = none
  n_enumerate : mg "enumerate" = none
  n_divmod : mg "divmod" = none
  n_range : mg "range" = none
  n_all : mg "all" = none
  n_max : mg "max" = none
  n_min : mg "min" = none
  c_LEAST : GlobV mg "LEAST" (.int (-2147483648))
  c_GREATEST : GlobV mg "GREATEST" (.int (2147483647))
  c_SINGLE : GlobT K mg "SINGLE" [.str "neg", .str "not"]
  c_DOUBLE : GlobT K mg "DOUBLE" [.str "add", .str "sub", .str "mul", .str "div", .str "rem", .str "and", .str "or", .str "xor", .str "shl", .str "shr", .str "lt", .str "le", .str "gt", .str "ge", .str "eq", .str "ne"]
section
variable {P : Program} {w : World} {K : PySem.W.Frag} {mg : Str → Option Value} {base : Heap}
theorem g_is_integer (T : Txt K mg)  : Gives P w K mg base CX0 1 "is_integer" spIsInt := by
  refine gives_fun T.d_is_integer sc_is_integer (fun _ _ _ _ _ _ us hl => match us, hl with | [_], _ => rfl) (fun vs H Q E h => ?_) (fun f cdv A outer s H vs Q E hr h => ?_)
  · obtain ⟨i, rfl, _⟩ := h
    rfl
  · obtain ⟨i, rfl, q⟩ := h
    refine ⟨_, (pss_one (ps_ret (pe_and (pe_callB call_isi (by rfl) T.n_isinstance (by decide +kernel) (pa_cons (pv 0) (pa_cons (pe_bltn (v := .ty "int") (by rfl) T.n_int (by decide +kernel) rfl) pa_nil))) (pe_one (pe_not (pe_callB call_isi (by rfl) T.n_isinstance (by decide +kernel) (pa_cons (pv 0) (pa_cons (pe_bltn (v := .ty "bool") (by rfl) T.n_bool (by decide +kernel) rfl) pa_nil)))))))), ?_⟩
    exact ⟨_, rfl, _, _, _, _, true, rfl, .ty "int", .base (.int i), kit_ty (by decide +kernel), true, rfl, iteT ⟨_, rfl, _, _, _, _, false, rfl, .ty "bool", .base (.int i), kit_ty (by decide +kernel), false, rfl, q⟩⟩
theorem g_is_word (T : Txt K mg) (g_is_integer : Gives P w K mg base CX0 1 "is_integer" spIsInt) : Gives P w K mg base CX0 2 "is_word" spIsWord := by
  refine gives_fun T.d_is_word sc_is_word (fun _ _ _ _ _ _ us hl => match us, hl with | [_], _ => rfl) (fun vs H Q E h => ?_) (fun f cdv A outer s H vs Q E hr h => ?_)
  · obtain ⟨i, rfl, _⟩ := h
    rfl
  · obtain ⟨i, rfl, q⟩ := h
    refine ⟨_, (pss_one (ps_ret (pe_and (pe_own g_is_integer (hr.mono (by decide)) (by rfl) pass0 (pa_cons (pv 0) pa_nil)) (pe_one (pe_chain op_le op_le (pe_gv (by rfl) T.c_LEAST) (pv 0) (pe_gv (by rfl) T.c_GREATEST)))))), ?_⟩
    refine ⟨_, rfl, i, rfl, true, rfl, iteT ⟨_, rfl, _, _, rfl, rfl, _, rfl, ite2 (fun c => ?_) (fun c => ?_)⟩⟩
    · have c1 : (-2147483648 : Int) ≤ i := of_decide_eq_true c
      refine ⟨_, _, rfl, rfl, ?_⟩
      have e : decide (i ≤ 2147483647) = decide (Wd i) := decide_eq_decide.mpr ⟨fun z => ⟨c1, z⟩, fun z => z.2⟩
      show Q (.bl (decide (i ≤ 2147483647))) H
      rw [e]
      exact q
    · have c1 : ¬ (-2147483648 : Int) ≤ i := fun z => c (decide_eq_true z)
      have e : decide (Wd i) = false := decide_eq_false fun z => c1 z.1
      rw [e] at q
      exact q
theorem g_wrapped (T : Txt K mg)  : Gives P w K mg base CX0 1 "wrapped" spWrapped := by
  refine gives_fun T.d_wrapped sc_wrapped (fun _ _ _ _ _ _ us hl => match us, hl with | [_], _ => rfl) (fun vs H Q E h => ?_) (fun f cdv A outer s H vs Q E hr h => ?_)
  · obtain ⟨i, rfl, _⟩ := h
    rfl
  · obtain ⟨i, rfl, q⟩ := h
    refine ⟨_, (pss_one (ps_ret (pe_op op_add (pe_op op_mod (pe_op op_sub (pv 0) (pe_gv (by rfl) T.c_LEAST)) (pe_powc 4294967296 ⟨by decide, by decide, by decide⟩ (by decide))) (pe_gv (by rfl) T.c_LEAST)))), ?_⟩
    exact ⟨_, rfl, _, _, rfl, rfl, _, _, rfl, rfl, (by show (0 : Int) < 4294967296; decide), _, _, rfl, rfl, q⟩
theorem g_quotient_of (T : Txt K mg)  : Gives P w K mg base CX0 1 "quotient_of" spQuot := by
  refine gives_fun T.d_quotient_of sc_quotient_of (fun _ _ _ _ _ _ us hl => match us, hl with | [_, _], _ => rfl) (fun vs H Q E h => ?_) (fun f cdv A outer s H vs Q E hr h => ?_)
  · obtain ⟨i, j, rfl, _⟩ := h
    rfl
  · obtain ⟨i, j, rfl, h0, hj, q⟩ := h
    refine ⟨_, (pss_cons (ps_set (i := 2) sc_quotient_of.nd rfl (Or.inl rfl) (pe_op op_fdivW (pe_callB call_abs (by rfl) T.n_abs (by decide +kernel) (pa_cons (pv 0) pa_nil)) (pe_callB call_abs (by rfl) T.n_abs (by decide +kernel) (pa_cons (pv 1) pa_nil))))
      (pss_one (ps_ret (pe_ifExp (pt_cmpR op_eq (pe_cmpR op_lt (pv 0) pe_int (nomark _)) (pe_cmpR op_lt (pv 1) pe_int (nomark _)) (nomark _)) (pv 2) (pe_un un_neg (pv 2)))))), ?_⟩
    have hb : CDivW (ab i) (ab j) := wide_div (b := 64) (by unfold ab; split <;> omega) (by unfold ab Wd at *; split <;> omega) (by decide) (by decide)
    refine ⟨_, rfl, _, rfl, _, rfl, _, rfl, _, _, rfl, rfl, hb, ?_⟩
    refine ⟨_, rfl, _, _, rfl, rfl, _, rfl, _, _, rfl, rfl, rfl, _, rfl, ?_⟩
    unfold quo at q
    refine ite2 (fun c => ?_) (fun c => ?_)
    · have c1 : decide (i < 0) = decide (j < 0) := V.bl.inj (of_decide_eq_true c)
      rw [if_pos c1] at q
      exact ⟨_, rfl, q⟩
    · have c1 : ¬ decide (i < 0) = decide (j < 0) := fun z => c (decide_eq_true (congrArg V.bl z))
      rw [if_neg c1] at q
      exact ⟨_, rfl, _, rfl, q⟩
theorem g_compared (T : Txt K mg)  : Gives P w K mg base CX0 1 "compared" spCompared := by
  refine gives_fun T.d_compared sc_compared (fun _ _ _ _ _ _ us hl => match us, hl with | [_, _, _], _ => rfl) (fun vs H Q E h => ?_) (fun f cdv A outer s H vs Q E hr h => ?_)
  · obtain ⟨o, a, b, rfl, _⟩ := h
    rfl
  · obtain ⟨o, a, b, rfl, ho, q⟩ := h
    refine ⟨_, (pss_cons (ps_if (pt_inC (i := 0) rfl (by first | exact Or.inl rfl | exact Or.inr (Or.inl rfl) | exact Or.inr (Or.inr rfl)) (pc_cons (pc_cons pc_nil))) (pss_one (ps_ret (pe_cmpR op_eq (pe_cmpR op_eq (pv 1) (pv 2) (nomark _)) (pe_cmpR op_eq (pv 0) pe_str (nomark _)) (nomark _)))) pss_nil)
      (pss_cons (ps_if (pt_inC (i := 0) rfl (by first | exact Or.inl rfl | exact Or.inr (Or.inl rfl) | exact Or.inr (Or.inr rfl)) (pc_cons (pc_cons pc_nil))) (pss_one (ps_ret (pe_cmpR op_eq (pe_cmpR op_lt (pv 1) (pv 2) (nomark _)) (pe_cmpR op_eq (pv 0) pe_str (nomark _)) (nomark _)))) pss_nil)
      (pss_one (ps_ret (pe_cmpR op_eq (pe_cmpR op_le (pv 1) (pv 2) (nomark _)) (pe_cmpR op_eq (pv 0) pe_str (nomark _)) (nomark _)))))), ?_⟩
    cases o <;> first | exact absurd ho (by decide) | skip
    · refine ⟨_, rfl, rfl, fun H1 s1 => ⟨_, rfl, iteF ⟨_, rfl, rfl, fun H2 s2 => ⟨_, rfl, iteT ⟨_, rfl, _, rfl, _, _, rfl, rfl, _, rfl, rfl, rfl, ?_⟩⟩⟩⟩⟩
      have e : ∀ c : Bool, decide (V.bl c = V.bl (decide (V.str Op.lt.name = V.str "lt"))) = c := by decide
      exact bl_cast (e _) (q _ (s1.trans s2))
    · refine ⟨_, rfl, rfl, fun H1 s1 => ⟨_, rfl, iteF ⟨_, rfl, rfl, fun H2 s2 => ⟨_, rfl, iteF ⟨_, rfl, _, rfl, _, _, rfl, rfl, _, rfl, rfl, rfl, ?_⟩⟩⟩⟩⟩
      have e : ∀ c : Bool, decide (V.bl c = V.bl (decide (V.str Op.le.name = V.str "le"))) = c := by decide
      exact bl_cast (e _) (q _ (s1.trans s2))
    · refine ⟨_, rfl, rfl, fun H1 s1 => ⟨_, rfl, iteF ⟨_, rfl, rfl, fun H2 s2 => ⟨_, rfl, iteF ⟨_, rfl, _, rfl, _, _, rfl, rfl, _, rfl, rfl, rfl, ?_⟩⟩⟩⟩⟩
      have e : ∀ c : Bool, decide (V.bl c = V.bl (decide (V.str Op.gt.name = V.str "le"))) = !c := by decide
      exact bl_cast (e _) (q _ (s1.trans s2))
    · refine ⟨_, rfl, rfl, fun H1 s1 => ⟨_, rfl, iteF ⟨_, rfl, rfl, fun H2 s2 => ⟨_, rfl, iteT ⟨_, rfl, _, rfl, _, _, rfl, rfl, _, rfl, rfl, rfl, ?_⟩⟩⟩⟩⟩
      have e : ∀ c : Bool, decide (V.bl c = V.bl (decide (V.str Op.ge.name = V.str "lt"))) = !c := by decide
      exact bl_cast (e _) (q _ (s1.trans s2))
    · refine ⟨_, rfl, rfl, fun H1 s1 => ⟨_, rfl, iteT ⟨_, rfl, _, rfl, rfl, _, rfl, rfl, rfl, ?_⟩⟩⟩
      have e : ∀ c : Bool, decide (V.bl c = V.bl (decide (V.str Op.eq.name = V.str "eq"))) = c := by decide
      refine bl_cast (e _) (bl_cast ?_ (q _ s1))
      show decide (V.int a = V.int b) = decide (a = b)
      rw [show decide (V.int a = V.int b) = decide (a = b) from decide_eq_decide.mpr ⟨V.int.inj, congrArg _⟩]
    · refine ⟨_, rfl, rfl, fun H1 s1 => ⟨_, rfl, iteT ⟨_, rfl, _, rfl, rfl, _, rfl, rfl, rfl, ?_⟩⟩⟩
      have e : ∀ c : Bool, decide (V.bl c = V.bl (decide (V.str Op.ne.name = V.str "eq"))) = !c := by decide
      refine bl_cast (e _) (bl_cast ?_ (q _ s1))
      show (!decide (V.int a = V.int b)) = (!decide (a = b))
      rw [show decide (V.int a = V.int b) = decide (a = b) from decide_eq_decide.mpr ⟨V.int.inj, congrArg _⟩]
theorem g_bits_of (T : Txt K mg) (g_wrapped : Gives P w K mg base CX0 1 "wrapped" spWrapped) : Gives P w K mg base CX0 2 "bits_of" spBits := by
  refine gives_fun T.d_bits_of sc_bits_of (fun _ _ _ _ _ _ us hl => match us, hl with | [_, _, _], _ => rfl) (fun vs H Q E h => ?_) (fun f cdv A outer s H vs Q E hr h => ?_)
  · obtain ⟨o, a, b, rfl, _⟩ := h
    rfl
  · obtain ⟨o, a, b, rfl, ho, ha, q⟩ := h
    refine ⟨_, (pss_cons (ps_if (pt_cmpR op_eq (pv 0) pe_str (nomark _)) (pss_one (ps_ret (pe_op op_and (pv 1) (pv 2)))) pss_nil)
      (pss_cons (ps_if (pt_cmpR op_eq (pv 0) pe_str (nomark _)) (pss_one (ps_ret (pe_op op_or (pv 1) (pv 2)))) pss_nil)
      (pss_cons (ps_if (pt_cmpR op_eq (pv 0) pe_str (nomark _)) (pss_one (ps_ret (pe_op op_xor (pv 1) (pv 2)))) pss_nil)
      (pss_cons (ps_set (i := 3) sc_bits_of.nd rfl (Or.inl rfl) (pe_op op_mod (pv 2) pe_int))
      (pss_one (ps_ret (pe_ifExp (pt_cmpR op_eq (pv 0) pe_str (nomark _)) (pe_own g_wrapped (hr.mono (by decide)) (by rfl) pass0 (pa_cons (pe_op op_shl (pv 1) (pv 3)) pa_nil)) (pe_op op_shr (pv 1) (pv 3))))))))), ?_⟩
    cases o <;> first | exact absurd ho (by decide) | skip
    · exact ⟨_, rfl, rfl, _, rfl, iteT ⟨_, rfl, _, rfl, _, _, rfl, rfl, q⟩⟩
    · exact ⟨_, rfl, rfl, _, rfl, iteF ⟨_, rfl, rfl, _, rfl, iteT ⟨_, rfl, _, rfl, _, _, rfl, rfl, q⟩⟩⟩
    · exact ⟨_, rfl, rfl, _, rfl, iteF ⟨_, rfl, rfl, _, rfl, iteF ⟨_, rfl, rfl, _, rfl, iteT ⟨_, rfl, _, rfl, _, _, rfl, rfl, q⟩⟩⟩⟩
    · refine ⟨_, rfl, rfl, _, rfl, iteF ⟨_, rfl, rfl, _, rfl, iteF ⟨_, rfl, rfl, _, rfl, iteF ⟨_, rfl, _, _, rfl, rfl, (by show (0 : Int) < 32; decide), ?_⟩⟩⟩⟩
      exact ⟨_, rfl, rfl, _, rfl, iteT ⟨_, rfl, _, rfl, _, _, rfl, rfl, ⟨Int.emod_nonneg _ (by decide), by omega, by unfold Wd at ha; omega⟩, _, rfl, q⟩⟩
    · refine ⟨_, rfl, rfl, _, rfl, iteF ⟨_, rfl, rfl, _, rfl, iteF ⟨_, rfl, rfl, _, rfl, iteF ⟨_, rfl, _, _, rfl, rfl, (by show (0 : Int) < 32; decide), ?_⟩⟩⟩⟩
      exact ⟨_, rfl, rfl, _, rfl, iteF ⟨_, rfl, _, rfl, _, _, rfl, rfl, Int.emod_nonneg _ (by decide), q⟩⟩
theorem g_result_of (T : Txt K mg) (g_wrapped : Gives P w K mg base CX0 1 "wrapped" spWrapped) (g_quotient_of : Gives P w K mg base CX0 1 "quotient_of" spQuot) (g_compared : Gives P w K mg base CX0 1 "compared" spCompared) (g_bits_of : Gives P w K mg base CX0 2 "bits_of" spBits) : Gives P w K mg base CX0 3 "result_of" spResult := by
  refine gives_fun T.d_result_of sc_result_of (fun _ _ _ _ _ _ us hl => match us, hl with | [_, _, _], _ => rfl) (fun vs H Q E h => ?_) (fun f cdv A outer s H vs Q E hr h => ?_)
  · obtain ⟨o, a, b, rfl, _⟩ := h
    rfl
  · obtain ⟨o, a, b, rfl, ha, hb, q⟩ := h
    refine ⟨_, (pss_cons (ps_if (pt_inC (i := 0) rfl (by first | exact Or.inl rfl | exact Or.inr (Or.inl rfl) | exact Or.inr (Or.inr rfl)) (pc_cons (pc_cons pc_nil))) (pss_cons (ps_if (pt_cmpR op_eq (pv 2) pe_int (nomark _)) (pss_one (ps_ret pe_non)) pss_nil)
      (pss_cons (ps_set (i := 3) sc_result_of.nd rfl (Or.inl rfl) (pe_own g_quotient_of (hr.mono (by decide)) (by rfl) pass0 (pa_cons (pv 1) (pa_cons (pv 2) pa_nil))))
      (pss_one (ps_ret (pe_own g_wrapped (hr.mono (by decide)) (by rfl) pass0 (pa_cons (pe_ifExp (pt_cmpR op_eq (pv 0) pe_str (nomark _)) (pv 3) (pe_op op_sub (pv 1) (pe_op op_mul (pv 2) (pv 3)))) pa_nil)))))) pss_nil)
      (pss_cons (ps_if (pt_inC (i := 0) rfl (by first | exact Or.inl rfl | exact Or.inr (Or.inl rfl) | exact Or.inr (Or.inr rfl)) (pc_cons (pc_cons (pc_cons (pc_cons (pc_cons (pc_cons pc_nil))))))) (pss_one (ps_ret (pe_callTy call_int1 (by rfl) T.n_int (by decide +kernel) (pa_cons (pe_own g_compared (hr.mono (by decide)) (by rfl) pass0 (pa_cons (pv 0) (pa_cons (pv 1) (pa_cons (pv 2) pa_nil)))) pa_nil)))) pss_nil)
      (pss_cons (ps_if (pt_inC (i := 0) rfl (by first | exact Or.inl rfl | exact Or.inr (Or.inl rfl) | exact Or.inr (Or.inr rfl)) (pc_cons (pc_cons (pc_cons (pc_cons (pc_cons pc_nil)))))) (pss_one (ps_ret (pe_own g_bits_of (hr.mono (by decide)) (by rfl) pass0 (pa_cons (pv 0) (pa_cons (pv 1) (pa_cons (pv 2) pa_nil)))))) pss_nil)
      (pss_cons (ps_if (pt_cmpR op_eq (pv 0) pe_str (nomark _)) (pss_one (ps_ret (pe_own g_wrapped (hr.mono (by decide)) (by rfl) pass0 (pa_cons (pe_op op_add (pv 1) (pv 2)) pa_nil)))) pss_nil)
      (pss_cons (ps_if (pt_cmpR op_eq (pv 0) pe_str (nomark _)) (pss_one (ps_ret (pe_own g_wrapped (hr.mono (by decide)) (by rfl) pass0 (pa_cons (pe_op op_sub (pv 1) (pv 2)) pa_nil)))) pss_nil)
      (pss_cons (ps_if (pt_cmpR op_eq (pv 0) pe_str (nomark _)) (pss_one (ps_ret (pe_own g_wrapped (hr.mono (by decide)) (by rfl) pass0 (pa_cons (pe_op op_mul (pv 1) (pv 2)) pa_nil)))) pss_nil)
      (pss_one (ps_ret (pe_own g_wrapped (hr.mono (by decide)) (by rfl) pass0 (pa_cons (pe_ifExp (pt_cmpR op_eq (pv 0) pe_str (nomark _)) (pe_un un_neg (pv 1)) (pe_op op_sub (pe_un un_neg (pv 1)) pe_int)) pa_nil)))))))))), ?_⟩
    have hm : CMul b (quo a b) := .inl ⟨by unfold Wd at hb; omega, by unfold Wd at hb; omega⟩
    have hm2 : CMul a b := .inl ⟨by unfold Wd at ha; omega, by unfold Wd at ha; omega⟩
    cases o
    · exact ⟨_, rfl, rfl, fun H1 s1 => ⟨_, rfl, iteF ⟨_, rfl, rfl, fun H2 s2 => ⟨_, rfl, iteF ⟨_, rfl, rfl, fun H3 s3 => ⟨_, rfl, iteF ⟨_, rfl, rfl, _, rfl, iteT ⟨_, rfl, _, rfl, _, _, rfl, rfl, _, rfl, q _ (s1.trans (s2.trans s3))⟩⟩⟩⟩⟩⟩⟩⟩
    · exact ⟨_, rfl, rfl, fun H1 s1 => ⟨_, rfl, iteF ⟨_, rfl, rfl, fun H2 s2 => ⟨_, rfl, iteF ⟨_, rfl, rfl, fun H3 s3 => ⟨_, rfl, iteF ⟨_, rfl, rfl, _, rfl, iteF ⟨_, rfl, rfl, _, rfl, iteT ⟨_, rfl, _, rfl, _, _, rfl, rfl, _, rfl, q _ (s1.trans (s2.trans s3))⟩⟩⟩⟩⟩⟩⟩⟩⟩
    · exact ⟨_, rfl, rfl, fun H1 s1 => ⟨_, rfl, iteF ⟨_, rfl, rfl, fun H2 s2 => ⟨_, rfl, iteF ⟨_, rfl, rfl, fun H3 s3 => ⟨_, rfl, iteF ⟨_, rfl, rfl, _, rfl, iteF ⟨_, rfl, rfl, _, rfl, iteF ⟨_, rfl, rfl, _, rfl, iteT ⟨_, rfl, _, rfl, _, _, rfl, rfl, hm2, _, rfl, q _ (s1.trans (s2.trans s3))⟩⟩⟩⟩⟩⟩⟩⟩⟩⟩
    · refine ⟨_, rfl, rfl, fun H1 s1 => ⟨_, rfl, iteT ⟨_, rfl, rfl, _, rfl, ite2 (fun c => ?_) (fun c => ?_)⟩⟩⟩
      · have e : b = 0 := V.int.inj (of_decide_eq_true c)
        have q1 := q _ s1
        subst e
        exact q1
      · have e : b ≠ 0 := fun z => c (decide_eq_true (congrArg V.int z))
        have q1 := q _ s1
        rw [res_div e] at q1
        exact ⟨_, rfl, _, rfl, _, _, rfl, e, hb, _, rfl, rfl, _, rfl, iteT ⟨_, rfl, _, rfl, q1⟩⟩
    · refine ⟨_, rfl, rfl, fun H1 s1 => ⟨_, rfl, iteT ⟨_, rfl, rfl, _, rfl, ite2 (fun c => ?_) (fun c => ?_)⟩⟩⟩
      · have e : b = 0 := V.int.inj (of_decide_eq_true c)
        have q1 := q _ s1
        subst e
        exact q1
      · have e : b ≠ 0 := fun z => c (decide_eq_true (congrArg V.int z))
        have q1 := q _ s1
        rw [res_rem e] at q1
        exact ⟨_, rfl, _, rfl, _, _, rfl, e, hb, _, rfl, rfl, _, rfl, iteF ⟨_, rfl, _, rfl, _, rfl, _, _, rfl, rfl, hm, _, _, rfl, rfl, _, rfl, q1⟩⟩
    · exact ⟨_, rfl, rfl, fun H1 s1 => ⟨_, rfl, iteF ⟨_, rfl, rfl, fun H2 s2 => ⟨_, rfl, iteF ⟨_, rfl, rfl, fun H3 s3 => ⟨_, rfl, iteT ⟨_, rfl, _, rfl, _, rfl, Op.and, a, b, rfl, rfl, ha, q _ (s1.trans (s2.trans s3))⟩⟩⟩⟩⟩⟩⟩
    · exact ⟨_, rfl, rfl, fun H1 s1 => ⟨_, rfl, iteF ⟨_, rfl, rfl, fun H2 s2 => ⟨_, rfl, iteF ⟨_, rfl, rfl, fun H3 s3 => ⟨_, rfl, iteT ⟨_, rfl, _, rfl, _, rfl, Op.or, a, b, rfl, rfl, ha, q _ (s1.trans (s2.trans s3))⟩⟩⟩⟩⟩⟩⟩
    · exact ⟨_, rfl, rfl, fun H1 s1 => ⟨_, rfl, iteF ⟨_, rfl, rfl, fun H2 s2 => ⟨_, rfl, iteF ⟨_, rfl, rfl, fun H3 s3 => ⟨_, rfl, iteT ⟨_, rfl, _, rfl, _, rfl, Op.xor, a, b, rfl, rfl, ha, q _ (s1.trans (s2.trans s3))⟩⟩⟩⟩⟩⟩⟩
    · exact ⟨_, rfl, rfl, fun H1 s1 => ⟨_, rfl, iteF ⟨_, rfl, rfl, fun H2 s2 => ⟨_, rfl, iteF ⟨_, rfl, rfl, fun H3 s3 => ⟨_, rfl, iteT ⟨_, rfl, _, rfl, _, rfl, Op.shl, a, b, rfl, rfl, ha, q _ (s1.trans (s2.trans s3))⟩⟩⟩⟩⟩⟩⟩
    · exact ⟨_, rfl, rfl, fun H1 s1 => ⟨_, rfl, iteF ⟨_, rfl, rfl, fun H2 s2 => ⟨_, rfl, iteF ⟨_, rfl, rfl, fun H3 s3 => ⟨_, rfl, iteT ⟨_, rfl, _, rfl, _, rfl, Op.shr, a, b, rfl, rfl, ha, q _ (s1.trans (s2.trans s3))⟩⟩⟩⟩⟩⟩⟩
    · exact ⟨_, rfl, rfl, fun H1 s1 => ⟨_, rfl, iteF ⟨_, rfl, rfl, fun H2 s2 => ⟨_, rfl, iteT ⟨_, rfl, _, rfl, _, rfl, Op.lt, a, b, rfl, rfl, fun H3 s3 => .inr ⟨_, rfl, q _ (s1.trans (s2.trans s3))⟩⟩⟩⟩⟩⟩
    · exact ⟨_, rfl, rfl, fun H1 s1 => ⟨_, rfl, iteF ⟨_, rfl, rfl, fun H2 s2 => ⟨_, rfl, iteT ⟨_, rfl, _, rfl, _, rfl, Op.le, a, b, rfl, rfl, fun H3 s3 => .inr ⟨_, rfl, q _ (s1.trans (s2.trans s3))⟩⟩⟩⟩⟩⟩
    · exact ⟨_, rfl, rfl, fun H1 s1 => ⟨_, rfl, iteF ⟨_, rfl, rfl, fun H2 s2 => ⟨_, rfl, iteT ⟨_, rfl, _, rfl, _, rfl, Op.gt, a, b, rfl, rfl, fun H3 s3 => .inr ⟨_, rfl, q _ (s1.trans (s2.trans s3))⟩⟩⟩⟩⟩⟩
    · exact ⟨_, rfl, rfl, fun H1 s1 => ⟨_, rfl, iteF ⟨_, rfl, rfl, fun H2 s2 => ⟨_, rfl, iteT ⟨_, rfl, _, rfl, _, rfl, Op.ge, a, b, rfl, rfl, fun H3 s3 => .inr ⟨_, rfl, q _ (s1.trans (s2.trans s3))⟩⟩⟩⟩⟩⟩
    · exact ⟨_, rfl, rfl, fun H1 s1 => ⟨_, rfl, iteF ⟨_, rfl, rfl, fun H2 s2 => ⟨_, rfl, iteT ⟨_, rfl, _, rfl, _, rfl, Op.eq, a, b, rfl, rfl, fun H3 s3 => .inr ⟨_, rfl, q _ (s1.trans (s2.trans s3))⟩⟩⟩⟩⟩⟩
    · exact ⟨_, rfl, rfl, fun H1 s1 => ⟨_, rfl, iteF ⟨_, rfl, rfl, fun H2 s2 => ⟨_, rfl, iteT ⟨_, rfl, _, rfl, _, rfl, Op.ne, a, b, rfl, rfl, fun H3 s3 => .inr ⟨_, rfl, q _ (s1.trans (s2.trans s3))⟩⟩⟩⟩⟩⟩
    · exact ⟨_, rfl, rfl, fun H1 s1 => ⟨_, rfl, iteF ⟨_, rfl, rfl, fun H2 s2 => ⟨_, rfl, iteF ⟨_, rfl, rfl, fun H3 s3 => ⟨_, rfl, iteF ⟨_, rfl, rfl, _, rfl, iteF ⟨_, rfl, rfl, _, rfl, iteF ⟨_, rfl, rfl, _, rfl, iteF ⟨_, rfl, rfl, _, rfl, iteT ⟨_, rfl, _, rfl, _, rfl, q _ (s1.trans (s2.trans s3))⟩⟩⟩⟩⟩⟩⟩⟩⟩⟩⟩
    · exact ⟨_, rfl, rfl, fun H1 s1 => ⟨_, rfl, iteF ⟨_, rfl, rfl, fun H2 s2 => ⟨_, rfl, iteF ⟨_, rfl, rfl, fun H3 s3 => ⟨_, rfl, iteF ⟨_, rfl, rfl, _, rfl, iteF ⟨_, rfl, rfl, _, rfl, iteF ⟨_, rfl, rfl, _, rfl, iteF ⟨_, rfl, rfl, _, rfl, iteF ⟨_, rfl, _, rfl, _, _, rfl, rfl, _, rfl, q _ (s1.trans (s2.trans s3))⟩⟩⟩⟩⟩⟩⟩⟩⟩⟩⟩
theorem g_wrap (T : Txt K mg) (g_wrapped : Gives P w K mg base CX0 1 "wrapped" spWrapped) (g_is_integer : Gives P w K mg base CX0 1 "is_integer" spIsInt) : Gives P w K mg base CX0 2 "wrap" spWrap := by
  refine gives_fun T.d_wrap sc_wrap (fun _ _ _ _ _ _ us hl => match us, hl with | [_], _ => rfl) (fun vs H Q E h => ?_) (fun f cdv A outer s H vs Q E hr h => ?_)
  · obtain ⟨i, rfl, _⟩ := h
    rfl
  · obtain ⟨i, rfl, q⟩ := h
    refine ⟨_, (pss_cons (ps_if (pt_not (pt_val (pe_own g_is_integer (hr.mono (by decide)) (by rfl) pass0 (pa_cons (pv 0) pa_nil)))) (pss_one ps_never) pss_nil)
      (pss_one (ps_ret (pe_own g_wrapped (hr.mono (by decide)) (by rfl) pass0 (pa_cons (pv 0) pa_nil))))), ?_⟩
    exact ⟨_, rfl, i, rfl, _, rfl, iteF' rfl ⟨_, rfl, i, rfl, q⟩⟩
theorem g_operateB (T : Txt K mg) (g_is_word : Gives P w K mg base CX0 2 "is_word" spIsWord) (g_result_of : Gives P w K mg base CX0 3 "result_of" spResult) :
    Gives P w K mg base CX0 4 "operate" (fun vs H Q E => ∃ ws rest, vs = ws ++ rest ∧ ws.length = ["operation"].length ∧ rest.length ≤ sizeLine ∧ ∀ p, H p = Option.none → spOperateB (ws ++ [V.ref p]) (upd H p (.tup rest)) Q E) := by
  refine gives_star (ps := ["operation"]) (pv := "words") T.d_operate sc_operate (fun kV doc pm an cdv ct => StX.bind_star1 (B := fun l => bindArgs (PySem.W.fnOf "operate" "operate" (defArgs s_operate) (defBody s_operate) (defScope s_operate) .none kV doc pm an cdv ct) ⟨l, []⟩) (fun a => rfl) (fun a r rs => rfl)) (fun f cdv A outer s H vs Q E hr h => ?_)
  obtain ⟨o, p, xs, rfl, hp, h⟩ := h
  refine ⟨_, (pss_cons (ps_if (PW.pt (pw_or (pt_not (pt_val (pe_callB call_isi (by rfl) T.n_isinstance (by decide +kernel) (pa_cons (pv 0) (pa_cons (pe_bltn (v := .ty "str") (by rfl) T.n_str (by decide +kernel) rfl) pa_nil))))) (pw_or1 (PW.pt (pw_and (pt_cmpR op_notIn_seq (pv 0) (pe_gt (by rfl) T.c_SINGLE) (by rfl)) (pw_and1 (pt_cmpR op_notIn_seq (pv 0) (pe_gt (by rfl) T.c_DOUBLE) (by rfl)))))))) (pss_one ps_never) pss_nil)
      (pss_cons (ps_if (pt_cmpR op_ne (pe_callB call_len_seq (by rfl) T.n_len (by decide +kernel) (pa_cons (pv 1) pa_nil)) (pe_ifExp (pt_cmpR op_in_seq (pv 0) (pe_gt (by rfl) T.c_SINGLE) (by rfl)) pe_int pe_int) (nomark _)) (pss_one ps_never) pss_nil)
      (pss_cons (ps_for PassesOwn.never rfl (pi_enumT (by rfl) T.n_enumerate (pa_cons (pv 1) pa_nil)) (pg_tup (by rfl) (pgs_cons (pg_name (i := 2) sc_operate.nd rfl (Or.inl rfl)) (pgs_cons (pg_name (i := 3) sc_operate.nd rfl (Or.inl rfl)) pgs_nil))) (pss_one (ps_if (pt_not (pt_val (pe_own g_is_word (hr.mono (by decide)) (by rfl) pass0 (pa_cons (pv 3) pa_nil)))) (pss_one ps_never) pss_nil)))
      (pss_one (ps_ret (pe_own g_result_of (hr.mono (by decide)) (by rfl) pass0 (pa_cons (pv 0) (pa_cons (pe_ix ix_tup (pv 1) pe_int (fun _ _ => rfl)) (pa_cons (pe_ix ix_tup (pv 1) (pe_negc (-1) (by decide)) (fun _ _ => rfl)) pa_nil))))))))), ?_⟩
  have sT : ∀ H', Same H H' → SqT K H' p xs := fun H' s' => .inl (.inl (s' _ _ hp))
  have loop : ∀ (D : Ends) (z : Option V), (∀ x ∈ xs, ∃ i, x = V.int i ∧ Wd i) → (∀ H' y2 y3, Same H H' → D.nx [some (.str o.name), some (.ref p), y2, y3] H') →
      (tFor (iEnumT K (tCons (tVar 1) tNil)) (gTup K 2 (gCons (gName 2) (gCons (gName 3) gNil))) (tIfS (tNot (tB (tOwn spIsWord E0 (tCons (tVar 3) tNil)))) tNever tNext)) D [some (.str o.name), some (.ref p), none, none] H := by
    intro D _ hx hD
    refine ⟨_, rfl, p, xs, rfl, sT _ (Same.refl _), ?_⟩
    refine for_enumT (xs := xs) (fun i σ H' => Same H H' ∧ ∃ y2 y3, σ = [some (.str o.name), some (.ref p), y2, y3]) ⟨Same.refl _, none, none, rfl⟩ (fun i σ H' _ h => sT _ h.1) (fun i x σ H' U hxi hP hU => ?_) (fun σ H' hP => ?_)
    · obtain ⟨sm, y2, y3, rfl⟩ := hP
      obtain ⟨n, rfl, wn⟩ := hx x (List.mem_of_getElem? hxi)
      refine ⟨U, _, rfl, .inl (.inl upd_same), rfl, _, _, rfl, _, _, rfl, rfl, ?_⟩
      refine ⟨_, rfl, n, rfl, _, rfl, iteF' (by rw [decide_eq_true wn]; rfl) ?_⟩
      exact ⟨L2.Same.trans sm (same_upd hU), _, _, rfl⟩
    · obtain ⟨sm, y2, y3, rfl⟩ := hP
      exact hD H' y2 y3 sm
  rcases h with ⟨ho, a, b, rfl, ha, hb, q⟩ | ⟨ho, a, rfl, ha, q⟩
  · have fin : ∀ H' y2 y3, Same H H' → (tRet (tOwn spResult E0 (tCons (tVar 0) (tCons (tOp (rIxT K) (tVar 1) (tC (.int 0))) (tCons (tOp (rIxT K) (tVar 1) (tC (.int (-1)))) tNil))))) { nx := fun _ H' => Q .non H', rt := Q } [some (.str o.name), some (.ref p), y2, y3] H' := by
      intro H' y2 y3 sm
      exact ⟨_, rfl, _, rfl, p, _, 0, .int a, rfl, rfl, sT _ sm, rfl, _, rfl, p, _, -1, .int b, rfl, rfl, sT _ sm, rfl, o, a, b, rfl, ha, hb, fun H2 s2 => q H2 (sm.trans s2)⟩
    cases o <;> first | exact absurd ho (by decide) | skip
    all_goals
      refine ⟨_, rfl, _, _, _, _, true, rfl, .ty "str", .base (.str _), kit_ty (by decide +kernel), true, rfl, iteF' rfl ⟨_, rfl, fun u hu => ⟨u, _, rfl, .inr (hu _), rfl, rfl, _, rfl, iteT' rfl ⟨_, rfl, fun u hu => ⟨u, _, rfl, .inr (hu _), rfl, rfl, _, rfl, iteF' rfl ?_⟩⟩⟩⟩⟩
      refine ⟨_, rfl, p, _, rfl, .inr (sT _ (Same.refl _)), _, rfl, fun u hu => ⟨u, _, rfl, .inr (hu _), rfl, rfl, _, rfl, iteF' rfl ⟨rfl, _, rfl, iteF' rfl ?_⟩⟩⟩
      exact loop _ none (fun x hx => (List.mem_cons.mp hx).elim (fun e => ⟨a, e, ha⟩) fun e => ⟨b, List.mem_singleton.mp e, hb⟩) fin
  · have fin : ∀ H' y2 y3, Same H H' → (tRet (tOwn spResult E0 (tCons (tVar 0) (tCons (tOp (rIxT K) (tVar 1) (tC (.int 0))) (tCons (tOp (rIxT K) (tVar 1) (tC (.int (-1)))) tNil))))) { nx := fun _ H' => Q .non H', rt := Q } [some (.str o.name), some (.ref p), y2, y3] H' := by
      intro H' y2 y3 sm
      exact ⟨_, rfl, _, rfl, p, _, 0, .int a, rfl, rfl, sT _ sm, rfl, _, rfl, p, _, -1, .int a, rfl, rfl, sT _ sm, rfl, o, a, a, rfl, ha, ha, fun H2 s2 => q H2 (sm.trans s2)⟩
    cases o <;> first | exact absurd ho (by decide) | skip
    all_goals
      refine ⟨_, rfl, _, _, _, _, true, rfl, .ty "str", .base (.str _), kit_ty (by decide +kernel), true, rfl, iteF' rfl ⟨_, rfl, fun u hu => ⟨u, _, rfl, .inr (hu _), rfl, rfl, _, rfl, iteF' rfl (iteF' rfl ?_)⟩⟩⟩
      refine ⟨_, rfl, p, _, rfl, .inr (sT _ (Same.refl _)), _, rfl, fun u hu => ⟨u, _, rfl, .inr (hu _), rfl, rfl, _, rfl, iteT' rfl ⟨rfl, _, rfl, iteF' rfl ?_⟩⟩⟩
      exact loop _ none (fun x hx => ⟨a, List.mem_singleton.mp hx, ha⟩) fin
theorem g_operate (T : Txt K mg) (g_is_word : Gives P w K mg base CX0 2 "is_word" spIsWord) (g_result_of : Gives P w K mg base CX0 3 "result_of" spResult) : Gives P w K mg base CX0 4 "operate" spOperate :=
  (g_operateB T g_is_word g_result_of).imp fun vs H Q E h => by
    rcases h with ⟨o, a, b, rfl, ho, ha, hb, q⟩ | ⟨o, a, rfl, ho, ha, q⟩
    · exact ⟨[.str o.name], [.int a, .int b], rfl, rfl, by show 2 ≤ sizeLine; decide, fun p hp => ⟨o, p, _, rfl, upd_same, .inl ⟨ho, a, b, rfl, ha, hb, fun H' s' => q H' ((same_upd hp).trans s')⟩⟩⟩
    · exact ⟨[.str o.name], [.int a], rfl, rfl, by show 1 ≤ sizeLine; decide, fun p hp => ⟨o, p, _, rfl, upd_same, .inr ⟨ho, a, rfl, ha, fun H' s' => q H' ((same_upd hp).trans s')⟩⟩⟩
theorem g_law_cell (T : Txt K mg)  : Gives P w K mg base CX0 1 "_law_cell" (spCell K) := by
  refine gives_fun T.d_law_cell sc_law_cell (fun _ _ _ _ _ _ us hl => match us, hl with | [_, _], _ => rfl) (fun vs H Q E h => ?_) (fun f cdv A outer s H vs Q E hr h => ?_)
  · obtain ⟨a, ns, k, rfl, _⟩ := h
    rfl
  · obtain ⟨a, ns, k, rfl, hS, hl, h0, h1, q⟩ := h
    refine ⟨_, (pss_cons (ps_if (pt_cmpR op_lt (pv 1) (pe_callB call_len_seq (by rfl) T.n_len (by decide +kernel) (pa_cons (pv 0) pa_nil)) (nomark _)) (pss_one (ps_ret (pe_ix ix_list (pv 0) (pv 1) (fun _ _ => rfl)))) pss_nil)
      (pss_cons (ps_set (i := 2) sc_law_cell.nd rfl (Or.inl rfl) (pe_op op_mod (pe_op op_mul pe_int (pe_op op_add (pe_op op_add (pe_op op_mul (pv 1) (pv 1)) (pe_op op_mul pe_int (pv 1))) pe_int)) pe_int))
      (pss_cons (ps_for PassesOwn.never rfl (pi_list (pe_slice sl_list (pv 0) po_none (po_some pe_int))) (pg_name (i := 3) sc_law_cell.nd rfl (Or.inl rfl)) (pss_one (ps_set (i := 2) sc_law_cell.nd rfl (Or.inl rfl) (pe_op op_mod (pe_op op_add (pe_op op_mul (pv 2) pe_int) (pv 3)) pe_int))))
      (pss_one (ps_ret (pv 2)))))), ?_⟩
    have hlen : (ns.map V.int).length = ns.length := List.length_map _
    refine ⟨_, rfl, _, rfl, a, _, rfl, .inl hS, _, _, rfl, rfl, _, rfl, ite2 (fun c => ?_) (fun c => ?_)⟩
    · have c1 : k < (((ns.map V.int).length : Nat) : Int) := of_decide_eq_true c
      rw [hlen] at c1
      obtain ⟨v, hv, _⟩ := at_ints (P := fun _ => True) ns (fun _ _ => trivial) h0 c1
      exact ⟨_, rfl, _, rfl, a, _, _, _, rfl, rfl, hS, hv, q _ _ (Same.refl _)⟩
    · refine ⟨_, rfl, _, rfl, _, _, rfl, rfl, .inl ⟨by omega, by omega⟩, _, rfl, _, _, rfl, rfl, .inl ⟨by decide, by decide⟩, _, _, rfl, rfl, _, _, rfl, rfl, _, _, rfl, rfl, .inl ⟨by decide, by decide⟩, _, _, rfl, rfl, (by show (0 : Int) < 2147483269; decide), ?_⟩
      refine ⟨_, rfl, 3, rfl, a, _, rfl, hS, fun c nc => ?_⟩
      have hc : SqL K (upd H c (.lst (cutV (ns.map V.int) none (some 3)))) c ((ns.take 3).map V.int) := by
        refine .inl (.inl ?_)
        rw [upd_same]
        have e : cutV (ns.map V.int) none (some 3) = (ns.take 3).map V.int := by
          unfold cutV
          rw [HT.sIx_none, show HT.sIx (ns.map V.int).length (ns.map V.int).length (some 3) = min 3 (ns.map V.int).length from HT.sIx_nat _ _ 3]
          rw [List.drop_zero, List.map_take, Nat.sub_zero]
          exact List.take_eq_take_min.symm
        rw [e]
      refine ⟨c, rfl, ⟨_, hc⟩, for_list (xs := (ns.take 3).map V.int) (fun i σ H' => H' = upd H c (.lst (cutV (ns.map V.int) none (some 3))) ∧ ∃ (x : Int) (y : Option V), σ = [some (.ref a), some (.int k), some (.int x), y] ∧ 0 ≤ x ∧ x < 2147483269) ⟨rfl, _, _, rfl, Int.emod_nonneg _ (by decide), Int.emod_lt_of_pos _ (by decide)⟩ (fun i σ H' _ h => by rw [h.1]; exact hc) (fun i x σ H' hx hP => ?_) (fun σ H' hP => ?_)⟩
      · obtain ⟨rfl, s, y, rfl, b0, b1⟩ := hP
        have hx2 : ∃ n : Int, x = .int n := by
          rw [List.getElem?_map] at hx
          cases e : (ns.take 3)[i]? with
          | none => rw [e] at hx; cases hx
          | some n => rw [e] at hx; exact ⟨n, (Option.some.inj hx).symm⟩
        obtain ⟨n, rfl⟩ := hx2
        refine ⟨_, rfl, _, _, rfl, rfl, .inr ⟨by decide, by decide⟩, _, rfl, _, _, rfl, rfl, _, _, rfl, rfl, (by show (0 : Int) < 2147483269; decide), ?_⟩
        exact ⟨rfl, _, _, rfl, Int.emod_nonneg _ (by decide), Int.emod_lt_of_pos _ (by decide)⟩
      · obtain ⟨rfl, s, y, rfl, b0, b1⟩ := hP
        exact ⟨_, rfl, q _ _ (same_upd nc)⟩
theorem g_law_pool (T : Txt K mg)  : Gives P w K mg base CX0 1 "_law_pool" spPool := by
  refine gives_fun T.d_law_pool sc_law_pool (fun _ _ _ _ _ _ us hl => match us, hl with | [_], _ => rfl) (fun vs H Q E h => ?_) (fun f cdv A outer s H vs Q E hr h => ?_)
  · obtain ⟨i, rfl, _⟩ := h
    rfl
  · obtain ⟨i, rfl, q⟩ := h
    refine ⟨_, (pss_cons (ps_set (i := 1) sc_law_pool.nd rfl (Or.inl rfl) (pe_ifExp (PW.pt (pw_or (pt_cmpR op_lt (pv 0) pe_int (nomark _)) (pw_or1 (pt_cmpR op_ge (pv 0) (pe_powc 1000000000000000000 ⟨by decide, by decide, by decide⟩ (by decide)) (nomark _))))) (pe_callB call_abs (by rfl) T.n_abs (by decide +kernel) (pa_cons (pv 0) pa_nil)) pe_int))
      (pss_one (ps_ret (pe_lst (pa_cons (pe_op op_mod (pv 0) pe_int) (pa_cons (pv 1) (pa_cons pe_int pa_nil))))))), ?_⟩
    have fin : ∀ d : Int, 0 ≤ d → (tRet (tLst (tCons (tOp (rI (fun _ j => 0 < j) fun i j => .int (i % j)) (tVar 0) (tC (.int 2147483269))) (tCons (tVar 1) (tCons (tC (.int 0)) tNil))))) { nx := fun _ H' => Q .non H', rt := Q } [some (.int i), some (.int d)] H := by
      intro d hd
      refine ⟨_, rfl, _, _, rfl, rfl, (by show (0 : Int) < 2147483269; decide), _, rfl, (by show 3 ≤ sizeLine; decide), fun p np => ?_⟩
      exact q _ p (same_upd np) np ⟨_, _, _, upd_same, Int.emod_nonneg _ (by decide), Int.emod_lt_of_pos _ (by decide), hd⟩
    refine ⟨_, rfl, _, _, rfl, rfl, _, rfl, ite2 (fun c => ?_) (fun c => ?_)⟩
    · refine iteT' rfl ?_
      exact ⟨_, rfl, _, rfl, fin _ (by split <;> omega)⟩
    · refine ⟨_, rfl, _, _, rfl, rfl, _, rfl, ite2 (fun c => ?_) (fun c => ?_)⟩
      · exact ⟨_, rfl, _, rfl, fin _ (by split <;> omega)⟩
      · exact fin 0 (Int.le_refl 0)
theorem g_law_draw (T : Txt K mg)  : Gives P w K mg base CX0 1 "_law_draw" spDraw := by
  refine gives_fun T.d_law_draw sc_law_draw (fun _ _ _ _ _ _ us hl => match us, hl with | [_, _], _ => rfl) (fun vs H Q E h => ?_) (fun f cdv A outer s H vs Q E hr h => ?_)
  · obtain ⟨p, m, rfl, _⟩ := h
    rfl
  · obtain ⟨p, m, rfl, hP, hm, hm2, q⟩ := h
    refine ⟨_, (pss_cons (ps_asg (pe_op op_add (pe_ix ix_list (pv 0) pe_int (fun _ _ => rfl)) pe_int) (pg_sub (pv 0) pe_int set_list))
      (pss_cons (ps_set (i := 2) sc_law_draw.nd rfl (Or.inl rfl) (pe_ix ix_list (pv 0) pe_int (fun _ _ => rfl)))
      (pss_cons (ps_asg (pe_op op_mod (pe_op op_add (pe_op op_mul (pv 2) (pe_op op_add (pe_op op_mod (pv 2) pe_int) pe_int)) (pe_op op_mul pe_int (pe_ix ix_list (pv 0) pe_int (fun _ _ => rfl)))) pe_int) (pg_sub (pv 0) pe_int set_list))
      (pss_cons (ps_if (pt_cmpR op_gt (pe_ix ix_list (pv 0) pe_int (fun _ _ => rfl)) pe_int (nomark _)) (pss_cons (ps_asg (pe_callB call_divmodW (by rfl) T.n_divmod (by decide +kernel) (pa_cons (pe_ix ix_list (pv 0) pe_int (fun _ _ => rfl)) (pa_cons (pv 1) pa_nil))) (pg_tup (by rfl) (pgs_cons (pg_sub (pv 0) pe_int set_list) (pgs_cons (pg_name (i := 3) sc_law_draw.nd rfl (Or.inl rfl)) pgs_nil))))
      (pss_one (ps_ret (pv 3)))) pss_nil)
      (pss_one (ps_ret (pe_op op_mod (pe_op op_fdiv (pe_ix ix_list (pv 0) pe_int (fun _ _ => rfl)) pe_int) (pv 1)))))))), ?_⟩
    obtain ⟨s0, d, n, e0, hs0, hs1, hd⟩ := hP
    refine ⟨_, rfl, p, _, 2, .int n, rfl, rfl, .inl (.inl e0), rfl, _, _, rfl, rfl, _, rfl, p, _, 2, 2, rfl, rfl, e0, rfl, ?_⟩
    refine ⟨_, rfl, p, _, 0, .int s0, rfl, rfl, .inl (.inl upd_same), rfl, ?_⟩
    refine ⟨_, rfl, _, rfl, _, _, rfl, rfl, (by show (0 : Int) < 50033; decide), _, _, rfl, rfl, _, _, rfl, rfl, .inl ⟨by omega, by omega⟩, _, rfl, p, _, 2, .int (n + 1), rfl, rfl, .inl (.inl upd_same), rfl, _, _, rfl, rfl, .inl ⟨by decide, by decide⟩, _, _, rfl, rfl, _, _, rfl, rfl, (by show (0 : Int) < 2147483269; decide), _, rfl, p, _, 0, 0, rfl, rfl, upd_same, rfl, ?_⟩
    have hn0 : 0 ≤ (s0 * (s0 % 50033 + 30011) + 80039 * (n + 1)) % 2147483269 := Int.emod_nonneg _ (by decide)
    have hn1 : (s0 * (s0 % 50033 + 30011) + 80039 * (n + 1)) % 2147483269 < 2147483269 := Int.emod_lt_of_pos _ (by decide)
    generalize hz : (s0 * (s0 % 50033 + 30011) + 80039 * (n + 1)) % 2147483269 = z at hn0 hn1
    refine ⟨_, rfl, p, _, 1, .int d, rfl, rfl, .inl (.inl upd_same), rfl, _, _, rfl, rfl, _, rfl, ite2 (fun c => ?_) (fun c => ?_)⟩
    · refine ⟨_, rfl, p, _, 1, .int d, rfl, rfl, .inl (.inl upd_same), rfl, _, rfl, _, _, rfl, divp_small hm hm2, fun t nt => ?_⟩
      have npt : p ≠ t := by
        intro e
        rw [← e, upd_same] at nt
        cases nt
      refine ⟨t, _, rfl, .inl (.inl upd_same), rfl, _, _, rfl, _, rfl, p, _, 1, 1, rfl, rfl, (by rw [upd_ne npt]; exact upd_same), rfl, _, _, rfl, rfl, ?_⟩
      refine ⟨_, rfl, q _ _ (SameBut.upd (SameBut.new (SameBut.upd (SameBut.upd (SameBut.refl _ _))) nt)) ⟨_, _, _, upd_same, by rw [hz]; exact hn0, by rw [hz]; exact hn1, Int.ediv_nonneg hd (by omega)⟩ (Int.emod_nonneg _ (by omega)) (Int.emod_lt_of_pos _ hm)⟩
    · refine ⟨_, rfl, p, _, 0, .int z, rfl, rfl, .inl (.inl upd_same), (by rw [← hz]; rfl), _, _, rfl, rfl, ⟨by decide, by decide⟩, _, rfl, _, _, rfl, rfl, hm, ?_⟩
      exact q _ _ (SameBut.upd (SameBut.upd (SameBut.refl _ _))) ⟨_, _, _, upd_same, by rw [hz]; exact hn0, by rw [hz]; exact hn1, hd⟩ (Int.emod_nonneg _ (by omega)) (Int.emod_lt_of_pos _ hm)
theorem g_law_figure (T : Txt K mg) (g_law_draw : Gives P w K mg base CX0 1 "_law_draw" spDraw) : Gives P w K mg base CX0 2 "_law_figure" spFigure := by
  refine gives_fun T.d_law_figure sc_law_figure (fun _ _ _ _ _ _ us hl => match us, hl with | [_], _ => rfl) (fun vs H Q E h => ?_) (fun f cdv A outer s H vs Q E hr h => ?_)
  · obtain ⟨p, rfl, _⟩ := h
    rfl
  · obtain ⟨p, rfl, hP, q⟩ := h
    refine ⟨_, (pss_cons (ps_set (i := 1) sc_law_figure.nd rfl (Or.inl rfl) (pe_lst (pa_cons pe_int (pa_cons pe_int (pa_cons (pe_op op_sub pe_int pe_int) (pa_cons pe_int (pa_cons (pe_op op_sub (pe_powc 2147483648 ⟨by decide, by decide, by decide⟩ (by decide)) pe_int) (pa_cons (pe_op op_sub pe_int (pe_powc 2147483648 ⟨by decide, by decide, by decide⟩ (by decide))) (pa_cons pe_int (pa_cons (pe_op op_sub (pe_own g_law_draw (hr.mono (by decide)) (by rfl) pass0 (pa_cons (pv 0) (pa_cons pe_int pa_nil))) pe_int) pa_nil))))))))))
      (pss_one (ps_ret (pe_ix ix_list (pe_op op_cat (pv 1) (pe_lst (pa_cons (pe_op op_sub (pe_own g_law_draw (hr.mono (by decide)) (by rfl) pass0 (pa_cons (pv 0) (pa_cons (pe_powc 4294967296 ⟨by decide, by decide, by decide⟩ (by decide)) pa_nil))) (pe_powc 2147483648 ⟨by decide, by decide, by decide⟩ (by decide))) pa_nil))) (pe_own g_law_draw (hr.mono (by decide)) (by rfl) pass0 (pa_cons (pv 0) (pa_cons pe_int pa_nil))) (fun _ _ => rfl))))), ?_⟩
    refine ⟨_, _, rfl, rfl, _, _, rfl, rfl, _, _, rfl, rfl, _, rfl, p, 12, rfl, hP, by decide, by decide, fun H1 r1 s1 P1 a1 b1 => ?_⟩
    refine ⟨_, _, rfl, rfl, (by show 8 ≤ sizeLine; decide), fun l nl => ?_⟩
    refine ⟨_, rfl, _, rfl, p, 4294967296, rfl, P1.same (same_upd nl), by decide, by decide, fun H2 r2 s2 P2 a2 b2 => ?_⟩
    have npl : p ≠ l := P1.ne nl
    have hl2 : H2 l = some (.lst _) := s2.at upd_same npl.symm
    refine ⟨_, _, rfl, rfl, (by show 1 ≤ sizeLine; decide), fun l2 nl2 => ?_⟩
    have nl12 : l ≠ l2 := ne_of_none hl2 nl2
    refine ⟨l, l2, _, _, rfl, rfl, (by rw [upd_ne nl12]; exact hl2), upd_same, (by show 9 ≤ sizeLine; decide), fun l3 nl3 => ?_⟩
    have np2 : p ≠ l2 := P2.ne nl2
    have P3 := P2.same (same_upd (o := .lst [.int (r2 - 2147483648)]) nl2)
    refine ⟨_, rfl, p, 9, rfl, P3.same (same_upd nl3), by decide, by decide, fun H4 r4 s4 P4 a4 b4 => ?_⟩
    have np3 : p ≠ l3 := P3.ne nl3
    obtain ⟨v, hv, wv⟩ := at_ints (P := Wd) [0, 1, 0 - 1, 2, 2147483648 - 1, 0 - 2147483648, 32, r1 - 3, r2 - 2147483648] (by
      intro x hx
      simp only [List.mem_cons, List.not_mem_nil, or_false] at hx
      unfold Wd
      rcases hx with e | e | e | e | e | e | e | e | e <;> omega) a4 b4
    refine ⟨l3, _, r4, .int v, rfl, rfl, .inl (.inl (s4.at upd_same np3.symm)), hv, ?_⟩
    exact q _ _ (((((SameBut.trans s1 (.of (same_upd nl))).trans s2).trans (.of (same_upd nl2))).trans (.of (same_upd nl3))).trans s4) P4 wv
end
end Cb

end

section
set_option maxRecDepth 100000
set_option maxHeartbeats 4000000
namespace Cb
open PySem PySem.Spec PyProof.Rows L2
def spOpI : Sp := fun vs H Q _ => (∃ (o : Op) (a b i : Int), vs = [.str o.name, .int a, .int b] ∧ o.single = false ∧ Wd a ∧ Wd b ∧ res o a b = .int i ∧ ∀ H', Same H H' → Q (.int i) H') ∨
  (∃ (o : Op) (a i : Int), vs = [.str o.name, .int a] ∧ o.single = true ∧ Wd a ∧ res o a a = .int i ∧ ∀ H', Same H H' → Q (.int i) H') ∨
  ∃ (o : Op) (a b : Int), vs = [.str o.name, .int a, .int b] ∧ o.single = false ∧ Wd a ∧ Wd b ∧ res o a b = .non ∧ ∀ H', Same H H' → Q .non H'
theorem cm_wd {a b : Int} (h : Wd a) : CMul a b := .inl ⟨by unfold Wd at h; omega, by unfold Wd at h; omega⟩
def spR3 : Sp := fun vs H Q _ => ∃ a b c : Int, vs = [.int a, .int b, .int c] ∧ Wd a ∧ Wd b ∧ Wd c ∧ ∀ H', Same H H' → Q (.bl true) H'
def spR2 : Sp := fun vs H Q _ => ∃ a b : Int, vs = [.int a, .int b] ∧ Wd a ∧ Wd b ∧ ∀ H', Same H H' → Q (.bl true) H'
section
variable {P : Program} {w : World} {K : PySem.W.Frag} {mg : Str → Option Value} {base : Heap}
theorem g_opI (g_operate : Gives P w K mg base CX0 4 "operate" spOperate) : Gives P w K mg base CX0 4 "operate" spOpI :=
  g_operate.imp fun vs H Q E h => by
    rcases h with ⟨o, a, b, i, rfl, ho, ha, hb, e, q⟩ | ⟨o, a, i, rfl, ho, ha, e, q⟩ | ⟨o, a, b, rfl, ho, ha, hb, e, q⟩
    · exact .inl ⟨o, a, b, rfl, ho, ha, hb, by rw [e]; exact q⟩
    · exact .inr ⟨o, a, rfl, ho, ha, by rw [e]; exact q⟩
    · exact .inl ⟨o, a, b, rfl, ho, ha, hb, by rw [e]; exact q⟩
theorem g_law_sums_right (T : Txt K mg) (g_operate : Gives P w K mg base CX0 4 "operate" spOpI) (g_wrap : Gives P w K mg base CX0 2 "wrap" spWrap) : Gives P w K mg base CX0 5 "_law_sums_right" spR3 := by
  refine gives_fun T.d_law_sums_right sc_law_sums_right (fun _ _ _ _ _ _ us hl => match us, hl with | [_, _, _], _ => rfl) (fun vs H Q E h => ?_) (fun f cdv A outer s H vs Q E hr h => ?_)
  · obtain ⟨a, b, c, rfl, _⟩ := h
    rfl
  · obtain ⟨a, b, c, rfl, ha, hb, hc, q⟩ := h
    refine ⟨_, (pss_cons (ps_par (i := 3) (j := 4) (by rfl) sc_law_sums_right.nd rfl rfl (by decide) rfl rfl (pa_cons (pe_own g_operate (hr.mono (by decide)) (by rfl) pass0 (pa_cons pe_str (pa_cons (pv 0) (pa_cons (pv 1) pa_nil)))) (pa_cons (pe_own g_operate (hr.mono (by decide)) (by rfl) pass0 (pa_cons pe_str (pa_cons (pv 0) (pa_cons (pv 1) pa_nil)))) pa_nil)) (by rfl))
      (pss_cons (ps_if (PW.pt (pw_or (pt_cmpR op_ne (pv 3) (pe_own g_operate (hr.mono (by decide)) (by rfl) pass0 (pa_cons pe_str (pa_cons (pv 1) (pa_cons (pv 0) pa_nil)))) (nomark _)) (pw_or (pt_cmpR op_ne (pv 4) (pe_own g_operate (hr.mono (by decide)) (by rfl) pass0 (pa_cons pe_str (pa_cons (pv 1) (pa_cons (pv 0) pa_nil)))) (nomark _)) (pw_or (pt_cmpR op_ne (pv 3) (pe_own g_wrap (hr.mono (by decide)) (by rfl) pass0 (pa_cons (pe_op op_add (pv 0) (pv 1)) pa_nil)) (nomark _)) (pw_or1 (pt_cmpR op_ne (pv 4) (pe_own g_wrap (hr.mono (by decide)) (by rfl) pass0 (pa_cons (pe_op op_mul (pv 0) (pv 1)) pa_nil)) (nomark _))))))) (pss_one (ps_ret pe_bl)) pss_nil)
      (pss_cons (ps_if (pt_cmpR op_ne (pe_own g_operate (hr.mono (by decide)) (by rfl) pass0 (pa_cons pe_str (pa_cons (pv 3) (pa_cons (pv 2) pa_nil)))) (pe_own g_operate (hr.mono (by decide)) (by rfl) pass0 (pa_cons pe_str (pa_cons (pv 0) (pa_cons (pe_own g_operate (hr.mono (by decide)) (by rfl) pass0 (pa_cons pe_str (pa_cons (pv 1) (pa_cons (pv 2) pa_nil)))) pa_nil)))) (nomark _)) (pss_one (ps_ret pe_bl)) pss_nil)
      (pss_cons (ps_if (pt_cmpR op_ne (pe_own g_operate (hr.mono (by decide)) (by rfl) pass0 (pa_cons pe_str (pa_cons (pv 4) (pa_cons (pv 2) pa_nil)))) (pe_own g_operate (hr.mono (by decide)) (by rfl) pass0 (pa_cons pe_str (pa_cons (pv 0) (pa_cons (pe_own g_operate (hr.mono (by decide)) (by rfl) pass0 (pa_cons pe_str (pa_cons (pv 1) (pa_cons (pv 2) pa_nil)))) pa_nil)))) (nomark _)) (pss_one (ps_ret pe_bl)) pss_nil)
      (pss_cons (ps_if (pt_cmpR op_ne (pe_own g_operate (hr.mono (by decide)) (by rfl) pass0 (pa_cons pe_str (pa_cons (pv 0) (pa_cons (pe_own g_operate (hr.mono (by decide)) (by rfl) pass0 (pa_cons pe_str (pa_cons (pv 1) (pa_cons (pv 2) pa_nil)))) pa_nil)))) (pe_own g_operate (hr.mono (by decide)) (by rfl) pass0 (pa_cons pe_str (pa_cons (pv 4) (pa_cons (pe_own g_operate (hr.mono (by decide)) (by rfl) pass0 (pa_cons pe_str (pa_cons (pv 0) (pa_cons (pv 2) pa_nil)))) pa_nil)))) (nomark _)) (pss_one (ps_ret pe_bl)) pss_nil)
      (pss_cons (ps_if (PW.pt (pw_or (pt_cmpR op_ne (pe_own g_operate (hr.mono (by decide)) (by rfl) pass0 (pa_cons pe_str (pa_cons (pv 0) (pa_cons (pv 1) pa_nil)))) (pe_own g_operate (hr.mono (by decide)) (by rfl) pass0 (pa_cons pe_str (pa_cons (pv 0) (pa_cons (pe_own g_operate (hr.mono (by decide)) (by rfl) pass0 (pa_cons pe_str (pa_cons (pv 1) pa_nil))) pa_nil)))) (nomark _)) (pw_or1 (pt_cmpR op_ne (pe_own g_operate (hr.mono (by decide)) (by rfl) pass0 (pa_cons pe_str (pa_cons (pv 0) (pa_cons (pv 1) pa_nil)))) (pe_own g_wrap (hr.mono (by decide)) (by rfl) pass0 (pa_cons (pe_op op_sub (pv 0) (pv 1)) pa_nil)) (nomark _))))) (pss_one (ps_ret pe_bl)) pss_nil)
      (pss_cons (ps_if (PW.pt (pw_or (pt_cmpR op_ne (pe_own g_operate (hr.mono (by decide)) (by rfl) pass0 (pa_cons pe_str (pa_cons (pv 3) (pa_cons (pv 1) pa_nil)))) (pv 0) (nomark _)) (pw_or1 (pt_cmpR op_ne (pe_own g_operate (hr.mono (by decide)) (by rfl) pass0 (pa_cons pe_str (pa_cons (pe_own g_operate (hr.mono (by decide)) (by rfl) pass0 (pa_cons pe_str (pa_cons (pv 0) pa_nil))) pa_nil))) (pv 0) (nomark _))))) (pss_one (ps_ret pe_bl)) pss_nil)
      (pss_cons (ps_if (pt_cmpR op_ne (pe_own g_operate (hr.mono (by decide)) (by rfl) pass0 (pa_cons pe_str (pa_cons (pv 0) (pa_cons (pe_own g_operate (hr.mono (by decide)) (by rfl) pass0 (pa_cons pe_str (pa_cons (pv 0) pa_nil))) pa_nil)))) pe_int (nomark _)) (pss_one (ps_ret pe_bl)) pss_nil)
      (pss_one (ps_ret (pe_and (pe_cmpR op_eq (pe_own g_operate (hr.mono (by decide)) (by rfl) pass0 (pa_cons pe_str (pa_cons (pv 0) (pa_cons (pe_negc (-1) (by decide)) pa_nil)))) (pe_own g_operate (hr.mono (by decide)) (by rfl) pass0 (pa_cons pe_str (pa_cons (pv 0) pa_nil))) (nomark _)) (pe_one (pe_cmpR op_eq (pe_own g_operate (hr.mono (by decide)) (by rfl) pass0 (pa_cons pe_str (pa_cons (pv 0) pa_nil))) (pe_own g_wrap (hr.mono (by decide)) (by rfl) pass0 (pa_cons (pe_op op_sub pe_int (pv 0)) pa_nil)) (nomark _)))))))))))))), ?_⟩
    refine ⟨_, rfl, _, rfl, .inl ⟨.add, _, _, _, rfl, rfl, ha, hb, rfl, fun H1 s1 => ?_⟩⟩
    refine ⟨_, rfl, _, rfl, .inl ⟨.mul, _, _, _, rfl, rfl, ha, hb, rfl, fun H2 s2 => ?_⟩⟩
    refine ⟨_, _, rfl, _, rfl, _, rfl, _, rfl, .inl ⟨.add, _, _, _, rfl, rfl, hb, ha, rfl, fun H3 s3 => ?_⟩⟩
    refine ⟨rfl, _, rfl, iteF' (ne_falseI (congrArg wrp (Int.add_comm _ _))) ?_⟩
    refine ⟨_, rfl, _, rfl, _, rfl, .inl ⟨.mul, _, _, _, rfl, rfl, hb, ha, rfl, fun H4 s4 => ?_⟩⟩
    refine ⟨rfl, _, rfl, iteF' (ne_falseI (congrArg wrp (Int.mul_comm _ _))) ?_⟩
    refine ⟨_, rfl, _, rfl, _, rfl, _, _, rfl, rfl, _, rfl, rfl, _, rfl, iteF' (ne_falseI rfl) ?_⟩
    refine ⟨_, rfl, _, rfl, _, rfl, _, _, rfl, rfl, (cm_wd ha), _, rfl, rfl, _, rfl, iteF' (ne_falseI rfl) ?_⟩
    refine ⟨_, rfl, _, rfl, .inl ⟨.add, _, _, _, rfl, rfl, (wrp_wd _), hc, rfl, fun H5 s5 => ?_⟩⟩
    refine ⟨_, rfl, _, rfl, _, rfl, .inl ⟨.add, _, _, _, rfl, rfl, hb, hc, rfl, fun H6 s6 => ?_⟩⟩
    refine .inl ⟨.add, _, _, _, rfl, rfl, ha, (wrp_wd _), rfl, fun H7 s7 => ?_⟩
    refine ⟨rfl, _, rfl, iteF' (ne_falseI (ms5 _ _ _)) ?_⟩
    refine ⟨_, rfl, _, rfl, .inl ⟨.mul, _, _, _, rfl, rfl, (wrp_wd _), hc, rfl, fun H8 s8 => ?_⟩⟩
    refine ⟨_, rfl, _, rfl, _, rfl, .inl ⟨.mul, _, _, _, rfl, rfl, hb, hc, rfl, fun H9 s9 => ?_⟩⟩
    refine .inl ⟨.mul, _, _, _, rfl, rfl, ha, (wrp_wd _), rfl, fun H10 s10 => ?_⟩
    refine ⟨rfl, _, rfl, iteF' (ne_falseI (ms6 _ _ _)) ?_⟩
    refine ⟨_, rfl, _, rfl, _, rfl, .inl ⟨.add, _, _, _, rfl, rfl, hb, hc, rfl, fun H11 s11 => ?_⟩⟩
    refine .inl ⟨.mul, _, _, _, rfl, rfl, ha, (wrp_wd _), rfl, fun H12 s12 => ?_⟩
    refine ⟨_, rfl, _, rfl, _, rfl, .inl ⟨.mul, _, _, _, rfl, rfl, ha, hc, rfl, fun H13 s13 => ?_⟩⟩
    refine .inl ⟨.add, _, _, _, rfl, rfl, (wrp_wd _), (wrp_wd _), rfl, fun H14 s14 => ?_⟩
    refine ⟨rfl, _, rfl, iteF' (ne_falseI (ms7 _ _ _)) ?_⟩
    refine ⟨_, rfl, _, rfl, .inl ⟨.sub, _, _, _, rfl, rfl, ha, hb, rfl, fun H15 s15 => ?_⟩⟩
    refine ⟨_, rfl, _, rfl, .inr (.inl ⟨.neg, _, _, rfl, rfl, hb, rfl, fun H16 s16 => ?_⟩)⟩
    refine .inl ⟨.add, _, _, _, rfl, rfl, ha, (wrp_wd _), rfl, fun H17 s17 => ?_⟩
    refine ⟨rfl, _, rfl, iteF' (ne_falseI (ms8 _ _)) ?_⟩
    refine ⟨_, rfl, _, rfl, .inl ⟨.sub, _, _, _, rfl, rfl, ha, hb, rfl, fun H18 s18 => ?_⟩⟩
    refine ⟨_, rfl, _, rfl, _, _, rfl, rfl, _, rfl, rfl, _, rfl, iteF' (ne_falseI rfl) ?_⟩
    refine ⟨_, rfl, _, rfl, .inl ⟨.sub, _, _, _, rfl, rfl, (wrp_wd _), hb, rfl, fun H19 s19 => ?_⟩⟩
    refine ⟨_, rfl, rfl, _, rfl, iteF' (ne_falseI (ms10 _ ha)) ?_⟩
    refine ⟨_, rfl, .inr (.inl ⟨.neg, _, _, rfl, rfl, ha, rfl, fun H20 s20 => ?_⟩)⟩
    refine .inr (.inl ⟨.neg, _, _, rfl, rfl, (wrp_wd _), rfl, fun H21 s21 => ?_⟩)
    refine ⟨_, rfl, rfl, _, rfl, iteF' (ne_falseI (ms11 ha)) ?_⟩
    refine ⟨_, rfl, _, rfl, .inr (.inl ⟨.neg, _, _, rfl, rfl, ha, rfl, fun H22 s22 => ?_⟩)⟩
    refine .inl ⟨.add, _, _, _, rfl, rfl, ha, (wrp_wd _), rfl, fun H23 s23 => ?_⟩
    refine ⟨rfl, _, rfl, iteF' (ne_falseI (ms12 _)) ?_⟩
    refine ⟨_, rfl, .inl ⟨.mul, _, _, _, rfl, rfl, ha, (by decide), rfl, fun H24 s24 => ?_⟩⟩
    refine ⟨_, rfl, .inr (.inl ⟨.neg, _, _, rfl, rfl, ha, rfl, fun H25 s25 => ?_⟩)⟩
    refine ⟨rfl, _, rfl, iteT' (eq_trueI (ms13 _)) ?_⟩
    refine ⟨_, rfl, .inr (.inl ⟨.neg, _, _, rfl, rfl, ha, rfl, fun H26 s26 => ?_⟩)⟩
    refine ⟨_, rfl, _, _, rfl, rfl, _, rfl, rfl, bl_cast (eq_trueI (ms14 _)) (q _ (L2.Same.trans s1 (L2.Same.trans s2 (L2.Same.trans s3 (L2.Same.trans s4 (L2.Same.trans s5 (L2.Same.trans s6 (L2.Same.trans s7 (L2.Same.trans s8 (L2.Same.trans s9 (L2.Same.trans s10 (L2.Same.trans s11 (L2.Same.trans s12 (L2.Same.trans s13 (L2.Same.trans s14 (L2.Same.trans s15 (L2.Same.trans s16 (L2.Same.trans s17 (L2.Same.trans s18 (L2.Same.trans s19 (L2.Same.trans s20 (L2.Same.trans s21 (L2.Same.trans s22 (L2.Same.trans s23 (L2.Same.trans s24 (L2.Same.trans s25 s26))))))))))))))))))))))))))⟩
theorem g_law_bits_right (T : Txt K mg) (g_operate : Gives P w K mg base CX0 4 "operate" spOpI) : Gives P w K mg base CX0 5 "_law_bits_right" spR3 := by
  refine gives_fun T.d_law_bits_right sc_law_bits_right (fun _ _ _ _ _ _ us hl => match us, hl with | [_, _, _], _ => rfl) (fun vs H Q E h => ?_) (fun f cdv A outer s H vs Q E hr h => ?_)
  · obtain ⟨a, b, c, rfl, _⟩ := h
    rfl
  · obtain ⟨a, b, c, rfl, ha, hb, hc, q⟩ := h
    refine ⟨_, (pss_cons (ps_par3 (i := 3) (j := 4) (l := 5) (by rfl) sc_law_bits_right.nd rfl rfl rfl (by decide) (by decide) (by decide) rfl rfl rfl (pa_cons (pe_own g_operate (hr.mono (by decide)) (by rfl) pass0 (pa_cons pe_str (pa_cons (pv 0) (pa_cons (pv 1) pa_nil)))) (pa_cons (pe_own g_operate (hr.mono (by decide)) (by rfl) pass0 (pa_cons pe_str (pa_cons (pv 0) (pa_cons (pv 1) pa_nil)))) (pa_cons (pe_own g_operate (hr.mono (by decide)) (by rfl) pass0 (pa_cons pe_str (pa_cons (pv 0) (pa_cons (pv 1) pa_nil)))) pa_nil))) (by rfl))
      (pss_cons (ps_if (PW.pt (pw_or (pt_cmpR op_ne (pv 5) (pe_own g_operate (hr.mono (by decide)) (by rfl) pass0 (pa_cons pe_str (pa_cons (pv 4) (pa_cons (pv 3) pa_nil)))) (nomark _)) (pw_or1 (pt_cmpR op_ne (pe_own g_operate (hr.mono (by decide)) (by rfl) pass0 (pa_cons pe_str (pa_cons (pv 3) (pa_cons (pv 4) pa_nil)))) (pe_own g_operate (hr.mono (by decide)) (by rfl) pass0 (pa_cons pe_str (pa_cons (pv 0) (pa_cons (pv 1) pa_nil)))) (nomark _))))) (pss_one (ps_ret pe_bl)) pss_nil)
      (pss_cons (ps_if (pt_cmpR op_ne (pe_own g_operate (hr.mono (by decide)) (by rfl) pass0 (pa_cons pe_str (pa_cons (pv 3) pa_nil))) (pe_own g_operate (hr.mono (by decide)) (by rfl) pass0 (pa_cons pe_str (pa_cons (pe_own g_operate (hr.mono (by decide)) (by rfl) pass0 (pa_cons pe_str (pa_cons (pv 0) pa_nil))) (pa_cons (pe_own g_operate (hr.mono (by decide)) (by rfl) pass0 (pa_cons pe_str (pa_cons (pv 1) pa_nil))) pa_nil)))) (nomark _)) (pss_one (ps_ret pe_bl)) pss_nil)
      (pss_cons (ps_if (PW.pt (pw_or (pt_cmpR op_ne (pe_own g_operate (hr.mono (by decide)) (by rfl) pass0 (pa_cons pe_str (pa_cons (pv 0) pa_nil))) (pe_own g_operate (hr.mono (by decide)) (by rfl) pass0 (pa_cons pe_str (pa_cons (pe_negc (-1) (by decide)) (pa_cons (pv 0) pa_nil)))) (nomark _)) (pw_or1 (pt_cmpR op_ne (pe_own g_operate (hr.mono (by decide)) (by rfl) pass0 (pa_cons pe_str (pa_cons (pv 5) (pa_cons (pv 1) pa_nil)))) (pv 0) (nomark _))))) (pss_one (ps_ret pe_bl)) pss_nil)
      (pss_cons (ps_if (pt_cmpR op_ne (pe_own g_operate (hr.mono (by decide)) (by rfl) pass0 (pa_cons pe_str (pa_cons (pe_own g_operate (hr.mono (by decide)) (by rfl) pass0 (pa_cons pe_str (pa_cons (pv 0) pa_nil))) pa_nil))) (pv 0) (nomark _)) (pss_one (ps_ret pe_bl)) pss_nil)
      (pss_cons (ps_if (PW.pt (pw_or (pt_cmpR op_ne (pe_own g_operate (hr.mono (by decide)) (by rfl) pass0 (pa_cons pe_str (pa_cons (pv 0) (pa_cons (pv 4) pa_nil)))) (pv 0) (nomark _)) (pw_or (pt_cmpR op_ne (pe_own g_operate (hr.mono (by decide)) (by rfl) pass0 (pa_cons pe_str (pa_cons (pv 0) (pa_cons (pv 3) pa_nil)))) (pv 0) (nomark _)) (pw_or1 (pt_cmpR op_ne (pe_own g_operate (hr.mono (by decide)) (by rfl) pass0 (pa_cons pe_str (pa_cons (pv 0) (pa_cons (pv 0) pa_nil)))) pe_int (nomark _)))))) (pss_one (ps_ret pe_bl)) pss_nil)
      (pss_one (ps_ret (pe_cmpR op_eq (pe_own g_operate (hr.mono (by decide)) (by rfl) pass0 (pa_cons pe_str (pa_cons (pv 0) (pa_cons (pv 5) pa_nil)))) (pe_own g_operate (hr.mono (by decide)) (by rfl) pass0 (pa_cons pe_str (pa_cons (pv 0) (pa_cons (pe_own g_operate (hr.mono (by decide)) (by rfl) pass0 (pa_cons pe_str (pa_cons (pv 1) pa_nil))) pa_nil)))) (nomark _)))))))))), ?_⟩
    refine ⟨_, rfl, _, rfl, .inl ⟨.and, _, _, _, rfl, rfl, ha, hb, rfl, fun H1 s1 => ?_⟩⟩
    refine ⟨_, rfl, _, rfl, .inl ⟨.or, _, _, _, rfl, rfl, ha, hb, rfl, fun H2 s2 => ?_⟩⟩
    refine ⟨_, rfl, _, rfl, .inl ⟨.xor, _, _, _, rfl, rfl, ha, hb, rfl, fun H3 s3 => ?_⟩⟩
    refine ⟨_, _, _, rfl, _, rfl, _, rfl, _, rfl, .inl ⟨.sub, _, _, _, rfl, rfl, (bor_wd ha hb), (band_wd ha hb), rfl, fun H4 s4 => ?_⟩⟩
    refine ⟨rfl, _, rfl, iteF' (ne_falseI (mb1 ha hb)) ?_⟩
    refine ⟨_, rfl, _, rfl, .inl ⟨.add, _, _, _, rfl, rfl, (band_wd ha hb), (bor_wd ha hb), rfl, fun H5 s5 => ?_⟩⟩
    refine ⟨_, rfl, _, rfl, .inl ⟨.add, _, _, _, rfl, rfl, ha, hb, rfl, fun H6 s6 => ?_⟩⟩
    refine ⟨rfl, _, rfl, iteF' (ne_falseI (mb2 _ _)) ?_⟩
    refine ⟨_, rfl, .inr (.inl ⟨.not, _, _, rfl, rfl, (band_wd ha hb), rfl, fun H7 s7 => ?_⟩)⟩
    refine ⟨_, rfl, .inr (.inl ⟨.not, _, _, rfl, rfl, ha, rfl, fun H8 s8 => ?_⟩)⟩
    refine ⟨_, rfl, .inr (.inl ⟨.not, _, _, rfl, rfl, hb, rfl, fun H9 s9 => ?_⟩)⟩
    refine .inl ⟨.or, _, _, _, rfl, rfl, (wrp_wd _), (wrp_wd _), rfl, fun H10 s10 => ?_⟩
    refine ⟨rfl, _, rfl, iteF' (ne_falseI (mb3 ha hb)) ?_⟩
    refine ⟨_, rfl, .inr (.inl ⟨.not, _, _, rfl, rfl, ha, rfl, fun H11 s11 => ?_⟩)⟩
    refine ⟨_, rfl, .inl ⟨.sub, _, _, _, rfl, rfl, (by decide), ha, rfl, fun H12 s12 => ?_⟩⟩
    refine ⟨rfl, _, rfl, iteF' (ne_falseI (mb4 _)) ?_⟩
    refine ⟨_, rfl, _, rfl, .inl ⟨.xor, _, _, _, rfl, rfl, (bxor_wd ha hb), hb, rfl, fun H13 s13 => ?_⟩⟩
    refine ⟨_, rfl, rfl, _, rfl, iteF' (ne_falseI (bxor_xor _ _)) ?_⟩
    refine ⟨_, rfl, .inr (.inl ⟨.not, _, _, rfl, rfl, ha, rfl, fun H14 s14 => ?_⟩)⟩
    refine .inr (.inl ⟨.not, _, _, rfl, rfl, (wrp_wd _), rfl, fun H15 s15 => ?_⟩)
    refine ⟨_, rfl, rfl, _, rfl, iteF' (ne_falseI (mb6 ha)) ?_⟩
    refine ⟨_, rfl, _, rfl, .inl ⟨.and, _, _, _, rfl, rfl, ha, (bor_wd ha hb), rfl, fun H16 s16 => ?_⟩⟩
    refine ⟨_, rfl, rfl, _, rfl, iteF' (ne_falseI (band_or _ _)) ?_⟩
    refine ⟨_, rfl, _, rfl, .inl ⟨.or, _, _, _, rfl, rfl, ha, (band_wd ha hb), rfl, fun H17 s17 => ?_⟩⟩
    refine ⟨_, rfl, rfl, _, rfl, iteF' (ne_falseI (mb8 _ _)) ?_⟩
    refine ⟨_, rfl, _, rfl, .inl ⟨.xor, _, _, _, rfl, rfl, ha, ha, rfl, fun H18 s18 => ?_⟩⟩
    refine ⟨rfl, _, rfl, iteF' (ne_falseI (mb9 _)) ?_⟩
    refine ⟨_, rfl, _, rfl, .inl ⟨.and, _, _, _, rfl, rfl, ha, (bxor_wd ha hb), rfl, fun H19 s19 => ?_⟩⟩
    refine ⟨_, rfl, _, rfl, .inr (.inl ⟨.not, _, _, rfl, rfl, hb, rfl, fun H20 s20 => ?_⟩)⟩
    refine .inl ⟨.and, _, _, _, rfl, rfl, ha, (wrp_wd _), rfl, fun H21 s21 => ?_⟩
    refine ⟨rfl, bl_cast (eq_trueI (mb10 hb)) (q _ (L2.Same.trans s1 (L2.Same.trans s2 (L2.Same.trans s3 (L2.Same.trans s4 (L2.Same.trans s5 (L2.Same.trans s6 (L2.Same.trans s7 (L2.Same.trans s8 (L2.Same.trans s9 (L2.Same.trans s10 (L2.Same.trans s11 (L2.Same.trans s12 (L2.Same.trans s13 (L2.Same.trans s14 (L2.Same.trans s15 (L2.Same.trans s16 (L2.Same.trans s17 (L2.Same.trans s18 (L2.Same.trans s19 (L2.Same.trans s20 s21)))))))))))))))))))))⟩
theorem g_law_shifts_right (T : Txt K mg) (g_operate : Gives P w K mg base CX0 4 "operate" spOpI) (g_wrap : Gives P w K mg base CX0 2 "wrap" spWrap) : Gives P w K mg base CX0 5 "_law_shifts_right" spR2 := by
  refine gives_fun T.d_law_shifts_right sc_law_shifts_right (fun _ _ _ _ _ _ us hl => match us, hl with | [_, _], _ => rfl) (fun vs H Q E h => ?_) (fun f cdv A outer s H vs Q E hr h => ?_)
  · obtain ⟨a, b, rfl, _⟩ := h
    rfl
  · obtain ⟨a, b, rfl, ha, hb, q⟩ := h
    refine ⟨_, (pss_cons (ps_set (i := 2) sc_law_shifts_right.nd rfl (Or.inl rfl) (pe_own g_operate (hr.mono (by decide)) (by rfl) pass0 (pa_cons pe_str (pa_cons (pv 1) (pa_cons pe_int pa_nil)))))
      (pss_cons (ps_if (PW.pt (pw_or (pt_cmpR op_ne (pe_own g_operate (hr.mono (by decide)) (by rfl) pass0 (pa_cons pe_str (pa_cons (pv 0) (pa_cons (pv 1) pa_nil)))) (pe_own g_operate (hr.mono (by decide)) (by rfl) pass0 (pa_cons pe_str (pa_cons (pv 0) (pa_cons (pv 2) pa_nil)))) (nomark _)) (pw_or1 (pt_cmpR op_ne (pe_own g_operate (hr.mono (by decide)) (by rfl) pass0 (pa_cons pe_str (pa_cons (pv 0) (pa_cons (pv 1) pa_nil)))) (pe_own g_operate (hr.mono (by decide)) (by rfl) pass0 (pa_cons pe_str (pa_cons (pv 0) (pa_cons (pv 2) pa_nil)))) (nomark _))))) (pss_one (ps_ret pe_bl)) pss_nil)
      (pss_cons (ps_if (PW.pt (pw_or (pt_cmpR op_ne (pe_own g_operate (hr.mono (by decide)) (by rfl) pass0 (pa_cons pe_str (pa_cons (pv 0) (pa_cons (pv 1) pa_nil)))) (pe_own g_operate (hr.mono (by decide)) (by rfl) pass0 (pa_cons pe_str (pa_cons (pv 0) (pa_cons (pe_own g_operate (hr.mono (by decide)) (by rfl) pass0 (pa_cons pe_str (pa_cons pe_int (pa_cons (pv 1) pa_nil)))) pa_nil)))) (nomark _)) (pw_or1 (pt_cmpR op_ne (pe_own g_operate (hr.mono (by decide)) (by rfl) pass0 (pa_cons pe_str (pa_cons (pv 0) (pa_cons (pv 1) pa_nil)))) (pe_own g_wrap (hr.mono (by decide)) (by rfl) pass0 (pa_cons (pe_op op_shl (pv 0) (pv 2)) pa_nil)) (nomark _))))) (pss_one (ps_ret pe_bl)) pss_nil)
      (pss_cons (ps_if (PW.pt (pw_or (pt_cmpR op_ne (pe_own g_operate (hr.mono (by decide)) (by rfl) pass0 (pa_cons pe_str (pa_cons (pv 0) (pa_cons (pv 1) pa_nil)))) (pe_op op_shr (pv 0) (pv 2)) (nomark _)) (pw_or1 (pt_cmpR op_ne (pe_own g_operate (hr.mono (by decide)) (by rfl) pass0 (pa_cons pe_str (pa_cons (pe_own g_operate (hr.mono (by decide)) (by rfl) pass0 (pa_cons pe_str (pa_cons (pv 0) pa_nil))) (pa_cons (pv 1) pa_nil)))) (pe_own g_operate (hr.mono (by decide)) (by rfl) pass0 (pa_cons pe_str (pa_cons (pe_own g_operate (hr.mono (by decide)) (by rfl) pass0 (pa_cons pe_str (pa_cons (pv 0) (pa_cons (pv 1) pa_nil)))) pa_nil))) (nomark _))))) (pss_one (ps_ret pe_bl)) pss_nil)
      (pss_one (ps_ret (pe_cmpR op_eq (pe_own g_operate (hr.mono (by decide)) (by rfl) pass0 (pa_cons pe_str (pa_cons (pe_own g_operate (hr.mono (by decide)) (by rfl) pass0 (pa_cons pe_str (pa_cons (pe_op op_shr (pv 0) (pv 2)) (pa_cons (pv 2) pa_nil)))) (pa_cons (pv 2) pa_nil)))) (pe_op op_shr (pv 0) (pv 2)) (nomark _)))))))), ?_⟩
    refine ⟨_, rfl, .inl ⟨.and, _, _, _, rfl, rfl, hb, (by decide), (congrArg V.int (by31 b)), fun H1 s1 => ?_⟩⟩
    refine ⟨_, rfl, _, rfl, .inl ⟨.shl, _, _, _, rfl, rfl, ha, hb, rfl, fun H2 s2 => ?_⟩⟩
    refine ⟨_, rfl, _, rfl, .inl ⟨.shl, _, _, _, rfl, rfl, ha, (wd_mod b), rfl, fun H3 s3 => ?_⟩⟩
    refine ⟨rfl, _, rfl, iteF' (ne_falseI (by rw [mod_mod])) ?_⟩
    refine ⟨_, rfl, _, rfl, .inl ⟨.shr, _, _, _, rfl, rfl, ha, hb, rfl, fun H4 s4 => ?_⟩⟩
    refine ⟨_, rfl, _, rfl, .inl ⟨.shr, _, _, _, rfl, rfl, ha, (wd_mod b), rfl, fun H5 s5 => ?_⟩⟩
    refine ⟨rfl, _, rfl, iteF' (ne_falseI (by rw [mod_mod])) ?_⟩
    refine ⟨_, rfl, _, rfl, .inl ⟨.shl, _, _, _, rfl, rfl, ha, hb, rfl, fun H6 s6 => ?_⟩⟩
    refine ⟨_, rfl, _, rfl, .inl ⟨.shl, _, _, _, rfl, rfl, (by decide), hb, rfl, fun H7 s7 => ?_⟩⟩
    refine .inl ⟨.mul, _, _, _, rfl, rfl, ha, (wrp_wd _), rfl, fun H8 s8 => ?_⟩
    refine ⟨rfl, _, rfl, iteF' (ne_falseI (shl_mul _ _)) ?_⟩
    refine ⟨_, rfl, _, rfl, .inl ⟨.shl, _, _, _, rfl, rfl, ha, hb, rfl, fun H9 s9 => ?_⟩⟩
    refine ⟨_, rfl, _, rfl, _, _, rfl, rfl, ⟨Int.emod_nonneg _ (by decide), by omega, by unfold Wd at ha; omega⟩, _, rfl, rfl, _, rfl, iteF' (ne_falseI rfl) ?_⟩
    refine ⟨_, rfl, _, rfl, .inl ⟨.shr, _, _, _, rfl, rfl, ha, hb, rfl, fun H10 s10 => ?_⟩⟩
    refine ⟨_, rfl, _, rfl, _, _, rfl, rfl, (Int.emod_nonneg _ (by decide)), rfl, _, rfl, iteF' (ne_falseI rfl) ?_⟩
    refine ⟨_, rfl, .inr (.inl ⟨.not, _, _, rfl, rfl, ha, rfl, fun H11 s11 => ?_⟩)⟩
    refine ⟨_, rfl, .inl ⟨.shr, _, _, _, rfl, rfl, (wrp_wd _), hb, rfl, fun H12 s12 => ?_⟩⟩
    refine ⟨_, rfl, _, rfl, .inl ⟨.shr, _, _, _, rfl, rfl, ha, hb, rfl, fun H13 s13 => ?_⟩⟩
    refine .inr (.inl ⟨.not, _, _, rfl, rfl, (shr_wd ha _), rfl, fun H14 s14 => ?_⟩)
    refine ⟨rfl, _, rfl, iteF' (ne_falseI (shr_not ha _)) ?_⟩
    refine ⟨_, rfl, _, rfl, _, _, rfl, rfl, (Int.emod_nonneg _ (by decide)), _, rfl, .inl ⟨.shl, _, _, _, rfl, rfl, (shr_wd ha _), (wd_mod b), rfl, fun H15 s15 => ?_⟩⟩
    refine ⟨_, rfl, .inl ⟨.shr, _, _, _, rfl, rfl, (wrp_wd _), (wd_mod b), rfl, fun H16 s16 => ?_⟩⟩
    refine ⟨_, rfl, _, rfl, _, _, rfl, rfl, (Int.emod_nonneg _ (by decide)), rfl, bl_cast (eq_trueI (by rw [mod_mod]; exact shr_back ha _ (by omega))) (q _ (L2.Same.trans s1 (L2.Same.trans s2 (L2.Same.trans s3 (L2.Same.trans s4 (L2.Same.trans s5 (L2.Same.trans s6 (L2.Same.trans s7 (L2.Same.trans s8 (L2.Same.trans s9 (L2.Same.trans s10 (L2.Same.trans s11 (L2.Same.trans s12 (L2.Same.trans s13 (L2.Same.trans s14 (L2.Same.trans s15 s16))))))))))))))))⟩
theorem g_law_parts_right (T : Txt K mg) (g_operate : Gives P w K mg base CX0 4 "operate" spOpI) : Gives P w K mg base CX0 5 "_law_parts_right" spR2 := by
  refine gives_fun T.d_law_parts_right sc_law_parts_right (fun _ _ _ _ _ _ us hl => match us, hl with | [_, _], _ => rfl) (fun vs H Q E h => ?_) (fun f cdv A outer s H vs Q E hr h => ?_)
  · obtain ⟨a, b, rfl, _⟩ := h
    rfl
  · obtain ⟨a, b, rfl, ha, hb, q⟩ := h
    refine ⟨_, (pss_cons (ps_if (pt_cmpR op_eq (pv 1) pe_int (nomark _)) (pss_one (ps_ret (pe_and (pe_cmpR op_isN (pe_own g_operate (hr.mono (by decide)) (by rfl) pass0 (pa_cons pe_str (pa_cons (pv 0) (pa_cons (pv 1) pa_nil)))) pe_non (nomark _)) (pe_one (pe_cmpR op_isN (pe_own g_operate (hr.mono (by decide)) (by rfl) pass0 (pa_cons pe_str (pa_cons (pv 0) (pa_cons (pv 1) pa_nil)))) pe_non (nomark _)))))) pss_nil)
      (pss_cons (ps_par (i := 2) (j := 3) (by rfl) sc_law_parts_right.nd rfl rfl (by decide) rfl rfl (pa_cons (pe_own g_operate (hr.mono (by decide)) (by rfl) pass0 (pa_cons pe_str (pa_cons (pv 0) (pa_cons (pv 1) pa_nil)))) (pa_cons (pe_own g_operate (hr.mono (by decide)) (by rfl) pass0 (pa_cons pe_str (pa_cons (pv 0) (pa_cons (pv 1) pa_nil)))) pa_nil)) (by rfl))
      (pss_cons (ps_if (PW.pt (pw_or (pt_cmpR op_ne (pe_own g_operate (hr.mono (by decide)) (by rfl) pass0 (pa_cons pe_str (pa_cons (pe_own g_operate (hr.mono (by decide)) (by rfl) pass0 (pa_cons pe_str (pa_cons (pv 2) (pa_cons (pv 1) pa_nil)))) (pa_cons (pv 3) pa_nil)))) (pv 0) (nomark _)) (pw_or (pt_cmpR op_ge (pe_callB call_abs (by rfl) T.n_abs (by decide +kernel) (pa_cons (pv 3) pa_nil)) (pe_callB call_abs (by rfl) T.n_abs (by decide +kernel) (pa_cons (pv 1) pa_nil)) (nomark _)) (pw_or1 (PW.pt (pw_and (pt_cmpR op_ne (pv 3) pe_int (nomark _)) (pw_and1 (pt_cmpR op_ne (pe_cmpR op_lt (pv 3) pe_int (nomark _)) (pe_cmpR op_lt (pv 0) pe_int (nomark _)) (nomark _))))))))) (pss_one (ps_ret pe_bl)) pss_nil)
      (pss_cons (ps_if (PW.pt (pw_or (pt_cmpR op_ne (pe_own g_operate (hr.mono (by decide)) (by rfl) pass0 (pa_cons pe_str (pa_cons (pv 0) (pa_cons (pe_own g_operate (hr.mono (by decide)) (by rfl) pass0 (pa_cons pe_str (pa_cons (pv 1) pa_nil))) pa_nil)))) (pv 3) (nomark _)) (pw_or1 (pt_cmpR op_ne (pe_own g_operate (hr.mono (by decide)) (by rfl) pass0 (pa_cons pe_str (pa_cons (pv 0) (pa_cons (pe_own g_operate (hr.mono (by decide)) (by rfl) pass0 (pa_cons pe_str (pa_cons (pv 1) pa_nil))) pa_nil)))) (pe_own g_operate (hr.mono (by decide)) (by rfl) pass0 (pa_cons pe_str (pa_cons (pv 2) pa_nil))) (nomark _))))) (pss_one (ps_ret (pe_or (pe_cmpR op_eq (pv 1) (pe_op op_sub pe_int (pe_powc 2147483648 ⟨by decide, by decide, by decide⟩ (by decide))) (nomark _)) (pe_one (pe_cmpR op_eq (pv 0) (pe_op op_sub pe_int (pe_powc 2147483648 ⟨by decide, by decide, by decide⟩ (by decide))) (nomark _)))))) pss_nil)
      (pss_one (ps_ret (pe_and (pe_cmpR op_eq (pe_own g_operate (hr.mono (by decide)) (by rfl) pass0 (pa_cons pe_str (pa_cons (pv 0) (pa_cons pe_int pa_nil)))) (pv 0) (nomark _)) (pe_and (pe_cmpR op_eq (pe_own g_operate (hr.mono (by decide)) (by rfl) pass0 (pa_cons pe_str (pa_cons (pv 0) (pa_cons pe_int pa_nil)))) pe_int (nomark _)) (pe_one (pe_cmpR op_eq (pe_own g_operate (hr.mono (by decide)) (by rfl) pass0 (pa_cons pe_str (pa_cons (pv 0) (pa_cons (pe_negc (-1) (by decide)) pa_nil)))) (pe_own g_operate (hr.mono (by decide)) (by rfl) pass0 (pa_cons pe_str (pa_cons (pv 0) pa_nil))) (nomark _))))))))))), ?_⟩
    refine ⟨_, rfl, rfl, _, rfl, ite2 (fun c => ?_) (fun c => ?_)⟩
    · have e : b = 0 := V.int.inj (of_decide_eq_true c)
      subst e
      refine ⟨_, rfl, _, rfl, .inr (.inr ⟨.div, _, _, rfl, rfl, ha, hb, rfl, fun H1 s1 => ?_⟩)⟩
      refine ⟨rfl, _, rfl, iteT' (rfl) ?_⟩
      refine ⟨_, rfl, _, rfl, .inr (.inr ⟨.rem, _, _, rfl, rfl, ha, hb, rfl, fun H2 s2 => ?_⟩)⟩
      refine ⟨rfl, bl_cast (rfl) (q _ (L2.Same.trans s1 s2))⟩
    · have e : b ≠ 0 := fun z => c (decide_eq_true (congrArg V.int z))
      refine ⟨_, rfl, _, rfl, .inl ⟨.div, _, _, _, rfl, rfl, ha, hb, (res_div e), fun H1 s1 => ?_⟩⟩
      refine ⟨_, rfl, _, rfl, .inl ⟨.rem, _, _, _, rfl, rfl, ha, hb, (res_rem e), fun H2 s2 => ?_⟩⟩
      refine ⟨_, _, rfl, _, rfl, _, rfl, .inl ⟨.mul, _, _, _, rfl, rfl, (wrp_wd _), hb, rfl, fun H3 s3 => ?_⟩⟩
      refine ⟨_, rfl, .inl ⟨.add, _, _, _, rfl, rfl, (wrp_wd _), (wrp_wd _), rfl, fun H4 s4 => ?_⟩⟩
      refine ⟨_, rfl, rfl, _, rfl, iteF' (ne_falseI (mp1 ha e hb)) ?_⟩
      refine ⟨_, rfl, _, rfl, _, rfl, _, rfl, _, _, rfl, rfl, _, rfl, iteF' (decide_eq_false (mp2 e hb)) ?_⟩
      refine ⟨_, rfl, rfl, _, rfl, ite2 (fun c2 => ?_) (fun c2 => iteF' rfl ?_)⟩
      · refine ⟨_, rfl, _, _, rfl, rfl, _, rfl, _, _, rfl, rfl, rfl, _, rfl, iteF' (ne_false (congrArg V.bl (mp3 e hb (fun z => absurd c2 (by rw [show wrp (a - b * quo a b) = 0 from z]; decide))))) ?_⟩
        by_cases e2 : b = -2147483648
        · refine ⟨_, rfl, _, rfl, .inr (.inl ⟨.neg, _, _, rfl, rfl, hb, rfl, fun H5 s5 => ?_⟩)⟩
          refine .inl ⟨.rem, _, _, _, rfl, rfl, ha, (wrp_wd _), (res_rem (wneg_ne e hb)), fun H6 s6 => ?_⟩
          refine ⟨_, rfl, rfl, _, rfl, ite2 (fun c3 => iteT' rfl ?_) (fun c3 => ?_)⟩
          · refine ⟨_, rfl, _, _, rfl, rfl, rfl, _, rfl, iteT' (eq_trueI (by omega)) (q _ (L2.Same.trans s1 (L2.Same.trans s2 (L2.Same.trans s3 (L2.Same.trans s4 (L2.Same.trans s5 s6))))))⟩
          · refine ⟨_, rfl, _, rfl, .inr (.inl ⟨.neg, _, _, rfl, rfl, hb, rfl, fun H7 s7 => ?_⟩)⟩
            refine .inl ⟨.div, _, _, _, rfl, rfl, ha, (wrp_wd _), (res_div (wneg_ne e hb)), fun H8 s8 => ?_⟩
            refine ⟨_, rfl, .inr (.inl ⟨.neg, _, _, rfl, rfl, (wrp_wd _), rfl, fun H9 s9 => ?_⟩)⟩
            refine ⟨rfl, _, rfl, ite2 (fun c4 => ?_) (fun c4 => ?_)⟩
            · refine ⟨_, rfl, _, _, rfl, rfl, rfl, _, rfl, iteT' (eq_trueI (by omega)) (q _ (L2.Same.trans s1 (L2.Same.trans s2 (L2.Same.trans s3 (L2.Same.trans s4 (L2.Same.trans s5 (L2.Same.trans s6 (L2.Same.trans s7 (L2.Same.trans s8 s9)))))))))⟩
            · refine ⟨_, rfl, .inl ⟨.div, _, _, _, rfl, rfl, ha, (by decide), (res_div (by decide)), fun H10 s10 => ?_⟩⟩
              refine ⟨_, rfl, rfl, _, rfl, iteT' (eq_trueI (mp6 ha)) ?_⟩
              refine ⟨_, rfl, .inl ⟨.rem, _, _, _, rfl, rfl, ha, (by decide), (res_rem (by decide)), fun H11 s11 => ?_⟩⟩
              refine ⟨rfl, _, rfl, iteT' (eq_trueI (mp7 _)) ?_⟩
              refine ⟨_, rfl, .inl ⟨.div, _, _, _, rfl, rfl, ha, (by decide), (res_div (by decide)), fun H12 s12 => ?_⟩⟩
              refine ⟨_, rfl, .inr (.inl ⟨.neg, _, _, rfl, rfl, ha, rfl, fun H13 s13 => ?_⟩)⟩
              refine ⟨rfl, bl_cast (eq_trueI (mp8 _)) (q _ (L2.Same.trans s1 (L2.Same.trans s2 (L2.Same.trans s3 (L2.Same.trans s4 (L2.Same.trans s5 (L2.Same.trans s6 (L2.Same.trans s7 (L2.Same.trans s8 (L2.Same.trans s9 (L2.Same.trans s10 (L2.Same.trans s11 (L2.Same.trans s12 s13)))))))))))))⟩
        · refine ⟨_, rfl, _, rfl, .inr (.inl ⟨.neg, _, _, rfl, rfl, hb, rfl, fun H5 s5 => ?_⟩)⟩
          refine .inl ⟨.rem, _, _, _, rfl, rfl, ha, (wrp_wd _), (res_rem (wneg_ne e hb)), fun H6 s6 => ?_⟩
          refine ⟨_, rfl, rfl, _, rfl, iteF' (ne_falseI (mp4 e hb e2)) ?_⟩
          refine ⟨_, rfl, _, rfl, .inr (.inl ⟨.neg, _, _, rfl, rfl, hb, rfl, fun H7 s7 => ?_⟩)⟩
          refine .inl ⟨.div, _, _, _, rfl, rfl, ha, (wrp_wd _), (res_div (wneg_ne e hb)), fun H8 s8 => ?_⟩
          refine ⟨_, rfl, .inr (.inl ⟨.neg, _, _, rfl, rfl, (wrp_wd _), rfl, fun H9 s9 => ?_⟩)⟩
          refine ⟨rfl, _, rfl, iteF' (ne_falseI (mp5 e hb e2)) ?_⟩
          refine ⟨_, rfl, .inl ⟨.div, _, _, _, rfl, rfl, ha, (by decide), (res_div (by decide)), fun H10 s10 => ?_⟩⟩
          refine ⟨_, rfl, rfl, _, rfl, iteT' (eq_trueI (mp6 ha)) ?_⟩
          refine ⟨_, rfl, .inl ⟨.rem, _, _, _, rfl, rfl, ha, (by decide), (res_rem (by decide)), fun H11 s11 => ?_⟩⟩
          refine ⟨rfl, _, rfl, iteT' (eq_trueI (mp7 _)) ?_⟩
          refine ⟨_, rfl, .inl ⟨.div, _, _, _, rfl, rfl, ha, (by decide), (res_div (by decide)), fun H12 s12 => ?_⟩⟩
          refine ⟨_, rfl, .inr (.inl ⟨.neg, _, _, rfl, rfl, ha, rfl, fun H13 s13 => ?_⟩)⟩
          refine ⟨rfl, bl_cast (eq_trueI (mp8 _)) (q _ (L2.Same.trans s1 (L2.Same.trans s2 (L2.Same.trans s3 (L2.Same.trans s4 (L2.Same.trans s5 (L2.Same.trans s6 (L2.Same.trans s7 (L2.Same.trans s8 (L2.Same.trans s9 (L2.Same.trans s10 (L2.Same.trans s11 (L2.Same.trans s12 s13)))))))))))))⟩
      · by_cases e2 : b = -2147483648
        · refine ⟨_, rfl, _, rfl, .inr (.inl ⟨.neg, _, _, rfl, rfl, hb, rfl, fun H5 s5 => ?_⟩)⟩
          refine .inl ⟨.rem, _, _, _, rfl, rfl, ha, (wrp_wd _), (res_rem (wneg_ne e hb)), fun H6 s6 => ?_⟩
          refine ⟨_, rfl, rfl, _, rfl, ite2 (fun c3 => iteT' rfl ?_) (fun c3 => ?_)⟩
          · refine ⟨_, rfl, _, _, rfl, rfl, rfl, _, rfl, iteT' (eq_trueI (by omega)) (q _ (L2.Same.trans s1 (L2.Same.trans s2 (L2.Same.trans s3 (L2.Same.trans s4 (L2.Same.trans s5 s6))))))⟩
          · refine ⟨_, rfl, _, rfl, .inr (.inl ⟨.neg, _, _, rfl, rfl, hb, rfl, fun H7 s7 => ?_⟩)⟩
            refine .inl ⟨.div, _, _, _, rfl, rfl, ha, (wrp_wd _), (res_div (wneg_ne e hb)), fun H8 s8 => ?_⟩
            refine ⟨_, rfl, .inr (.inl ⟨.neg, _, _, rfl, rfl, (wrp_wd _), rfl, fun H9 s9 => ?_⟩)⟩
            refine ⟨rfl, _, rfl, ite2 (fun c4 => ?_) (fun c4 => ?_)⟩
            · refine ⟨_, rfl, _, _, rfl, rfl, rfl, _, rfl, iteT' (eq_trueI (by omega)) (q _ (L2.Same.trans s1 (L2.Same.trans s2 (L2.Same.trans s3 (L2.Same.trans s4 (L2.Same.trans s5 (L2.Same.trans s6 (L2.Same.trans s7 (L2.Same.trans s8 s9)))))))))⟩
            · refine ⟨_, rfl, .inl ⟨.div, _, _, _, rfl, rfl, ha, (by decide), (res_div (by decide)), fun H10 s10 => ?_⟩⟩
              refine ⟨_, rfl, rfl, _, rfl, iteT' (eq_trueI (mp6 ha)) ?_⟩
              refine ⟨_, rfl, .inl ⟨.rem, _, _, _, rfl, rfl, ha, (by decide), (res_rem (by decide)), fun H11 s11 => ?_⟩⟩
              refine ⟨rfl, _, rfl, iteT' (eq_trueI (mp7 _)) ?_⟩
              refine ⟨_, rfl, .inl ⟨.div, _, _, _, rfl, rfl, ha, (by decide), (res_div (by decide)), fun H12 s12 => ?_⟩⟩
              refine ⟨_, rfl, .inr (.inl ⟨.neg, _, _, rfl, rfl, ha, rfl, fun H13 s13 => ?_⟩)⟩
              refine ⟨rfl, bl_cast (eq_trueI (mp8 _)) (q _ (L2.Same.trans s1 (L2.Same.trans s2 (L2.Same.trans s3 (L2.Same.trans s4 (L2.Same.trans s5 (L2.Same.trans s6 (L2.Same.trans s7 (L2.Same.trans s8 (L2.Same.trans s9 (L2.Same.trans s10 (L2.Same.trans s11 (L2.Same.trans s12 s13)))))))))))))⟩
        · refine ⟨_, rfl, _, rfl, .inr (.inl ⟨.neg, _, _, rfl, rfl, hb, rfl, fun H5 s5 => ?_⟩)⟩
          refine .inl ⟨.rem, _, _, _, rfl, rfl, ha, (wrp_wd _), (res_rem (wneg_ne e hb)), fun H6 s6 => ?_⟩
          refine ⟨_, rfl, rfl, _, rfl, iteF' (ne_falseI (mp4 e hb e2)) ?_⟩
          refine ⟨_, rfl, _, rfl, .inr (.inl ⟨.neg, _, _, rfl, rfl, hb, rfl, fun H7 s7 => ?_⟩)⟩
          refine .inl ⟨.div, _, _, _, rfl, rfl, ha, (wrp_wd _), (res_div (wneg_ne e hb)), fun H8 s8 => ?_⟩
          refine ⟨_, rfl, .inr (.inl ⟨.neg, _, _, rfl, rfl, (wrp_wd _), rfl, fun H9 s9 => ?_⟩)⟩
          refine ⟨rfl, _, rfl, iteF' (ne_falseI (mp5 e hb e2)) ?_⟩
          refine ⟨_, rfl, .inl ⟨.div, _, _, _, rfl, rfl, ha, (by decide), (res_div (by decide)), fun H10 s10 => ?_⟩⟩
          refine ⟨_, rfl, rfl, _, rfl, iteT' (eq_trueI (mp6 ha)) ?_⟩
          refine ⟨_, rfl, .inl ⟨.rem, _, _, _, rfl, rfl, ha, (by decide), (res_rem (by decide)), fun H11 s11 => ?_⟩⟩
          refine ⟨rfl, _, rfl, iteT' (eq_trueI (mp7 _)) ?_⟩
          refine ⟨_, rfl, .inl ⟨.div, _, _, _, rfl, rfl, ha, (by decide), (res_div (by decide)), fun H12 s12 => ?_⟩⟩
          refine ⟨_, rfl, .inr (.inl ⟨.neg, _, _, rfl, rfl, ha, rfl, fun H13 s13 => ?_⟩)⟩
          refine ⟨rfl, bl_cast (eq_trueI (mp8 _)) (q _ (L2.Same.trans s1 (L2.Same.trans s2 (L2.Same.trans s3 (L2.Same.trans s4 (L2.Same.trans s5 (L2.Same.trans s6 (L2.Same.trans s7 (L2.Same.trans s8 (L2.Same.trans s9 (L2.Same.trans s10 (L2.Same.trans s11 (L2.Same.trans s12 s13)))))))))))))⟩
theorem g_law_orders_right (T : Txt K mg) (g_operate : Gives P w K mg base CX0 4 "operate" spOpI) : Gives P w K mg base CX0 5 "_law_orders_right" spR3 := by
  refine gives_fun T.d_law_orders_right sc_law_orders_right (fun _ _ _ _ _ _ us hl => match us, hl with | [_, _, _], _ => rfl) (fun vs H Q E h => ?_) (fun f cdv A outer s H vs Q E hr h => ?_)
  · obtain ⟨a, b, c, rfl, _⟩ := h
    rfl
  · obtain ⟨a, b, c, rfl, ha, hb, hc, q⟩ := h
    refine ⟨_, (pss_cons (ps_par (i := 3) (j := 4) (by rfl) sc_law_orders_right.nd rfl rfl (by decide) rfl rfl (pa_cons (pe_own g_operate (hr.mono (by decide)) (by rfl) pass0 (pa_cons pe_str (pa_cons (pv 0) (pa_cons (pv 1) pa_nil)))) (pa_cons (pe_own g_operate (hr.mono (by decide)) (by rfl) pass0 (pa_cons pe_str (pa_cons (pv 0) (pa_cons (pv 1) pa_nil)))) pa_nil)) (by rfl))
      (pss_cons (ps_set (i := 5) sc_law_orders_right.nd rfl (Or.inl rfl) (pe_own g_operate (hr.mono (by decide)) (by rfl) pass0 (pa_cons pe_str (pa_cons (pv 3) (pa_cons (pv 4) pa_nil)))))
      (pss_cons (ps_if (PW.pt (pw_or (pt_cmpR op_ne (pe_own g_operate (hr.mono (by decide)) (by rfl) pass0 (pa_cons pe_str (pa_cons (pv 0) (pa_cons (pv 1) pa_nil)))) (pv 5) (nomark _)) (pw_or1 (pt_cmpR op_ne (pe_own g_operate (hr.mono (by decide)) (by rfl) pass0 (pa_cons pe_str (pa_cons (pv 0) (pa_cons (pv 1) pa_nil)))) (pe_own g_operate (hr.mono (by decide)) (by rfl) pass0 (pa_cons pe_str (pa_cons (pv 5) (pa_cons pe_int pa_nil)))) (nomark _))))) (pss_one (ps_ret pe_bl)) pss_nil)
      (pss_cons (ps_if (pt_cmpR (op_neD hr.units) (pe_lst (pa_cons (pe_own g_operate (hr.mono (by decide)) (by rfl) pass0 (pa_cons pe_str (pa_cons (pv 0) (pa_cons (pv 1) pa_nil)))) (pa_cons (pe_own g_operate (hr.mono (by decide)) (by rfl) pass0 (pa_cons pe_str (pa_cons (pv 0) (pa_cons (pv 1) pa_nil)))) pa_nil))) (pe_lst (pa_cons (pe_own g_operate (hr.mono (by decide)) (by rfl) pass0 (pa_cons pe_str (pa_cons (pv 3) (pa_cons pe_int pa_nil)))) (pa_cons (pe_own g_operate (hr.mono (by decide)) (by rfl) pass0 (pa_cons pe_str (pa_cons (pv 4) (pa_cons pe_int pa_nil)))) pa_nil))) (nomark _)) (pss_one (ps_ret pe_bl)) pss_nil)
      (pss_cons (ps_if (PW.pt (pw_or (pt_cmpR op_ne (pe_own g_operate (hr.mono (by decide)) (by rfl) pass0 (pa_cons pe_str (pa_cons (pv 1) (pa_cons (pv 0) pa_nil)))) (pe_own g_operate (hr.mono (by decide)) (by rfl) pass0 (pa_cons pe_str (pa_cons (pv 0) (pa_cons (pv 1) pa_nil)))) (nomark _)) (pw_or1 (pt_cmpR op_ne (pe_own g_operate (hr.mono (by decide)) (by rfl) pass0 (pa_cons pe_str (pa_cons (pv 3) (pa_cons (pv 4) pa_nil)))) pe_int (nomark _))))) (pss_one (ps_ret pe_bl)) pss_nil)
      (pss_cons (ps_if (PW.pt (pw_or (pt_cmpR op_ne (pv 4) (pe_callTy call_int1 (by rfl) T.n_int (by decide +kernel) (pa_cons (pe_cmpR op_eq (pv 0) (pv 1) (nomark _)) pa_nil)) (nomark _)) (pw_or1 (pt_cmpR op_ne (pv 3) (pe_callTy call_int1 (by rfl) T.n_int (by decide +kernel) (pa_cons (pe_cmpR op_lt (pv 0) (pv 1) (nomark _)) pa_nil)) (nomark _))))) (pss_one (ps_ret pe_bl)) pss_nil)
      (pss_one (ps_ret (pe_cmpR op_eq (pe_own g_operate (hr.mono (by decide)) (by rfl) pass0 (pa_cons pe_str (pa_cons (pe_own g_operate (hr.mono (by decide)) (by rfl) pass0 (pa_cons pe_str (pa_cons (pv 3) (pa_cons (pe_own g_operate (hr.mono (by decide)) (by rfl) pass0 (pa_cons pe_str (pa_cons (pv 1) (pa_cons (pv 2) pa_nil)))) pa_nil)))) (pa_cons (pe_own g_operate (hr.mono (by decide)) (by rfl) pass0 (pa_cons pe_str (pa_cons (pv 0) (pa_cons (pv 2) pa_nil)))) pa_nil)))) pe_int (nomark _)))))))))), ?_⟩
    refine ⟨_, rfl, _, rfl, .inl ⟨.lt, _, _, _, rfl, rfl, ha, hb, rfl, fun H1 s1 => ?_⟩⟩
    refine ⟨_, rfl, _, rfl, .inl ⟨.eq, _, _, _, rfl, rfl, ha, hb, rfl, fun H2 s2 => ?_⟩⟩
    refine ⟨_, _, rfl, _, rfl, _, rfl, .inl ⟨.or, _, _, _, rfl, rfl, (b2_wd _), (b2_wd _), rfl, fun H3 s3 => ?_⟩⟩
    refine ⟨_, rfl, _, rfl, .inl ⟨.le, _, _, _, rfl, rfl, ha, hb, rfl, fun H4 s4 => ?_⟩⟩
    refine ⟨_, rfl, rfl, _, rfl, iteF' (ne_falseI (mo1 _ _)) ?_⟩
    refine ⟨_, rfl, _, rfl, .inl ⟨.gt, _, _, _, rfl, rfl, ha, hb, rfl, fun H5 s5 => ?_⟩⟩
    refine ⟨_, rfl, .inl ⟨.xor, _, _, _, rfl, rfl, (bor_wd (b2_wd _) (b2_wd _)), (by decide), rfl, fun H6 s6 => ?_⟩⟩
    refine ⟨rfl, _, rfl, iteF' (ne_falseI (mo2 _ _)) ?_⟩
    refine ⟨_, rfl, _, rfl, .inl ⟨.ge, _, _, _, rfl, rfl, ha, hb, rfl, fun H7 s7 => ?_⟩⟩
    refine ⟨_, rfl, _, rfl, .inl ⟨.ne, _, _, _, rfl, rfl, ha, hb, rfl, fun H8 s8 => ?_⟩⟩
    refine ⟨(by show 2 ≤ sizeLine; decide), fun l0 n0 => ?_⟩
    have s9 := same_upd (o := .lst [.int (b2 (!decide (a < b))), .int (b2 (!decide (a = b)))]) n0
    refine ⟨_, rfl, .inl ⟨.xor, _, _, _, rfl, rfl, (b2_wd _), (by decide), rfl, fun H10 s10 => ?_⟩⟩
    refine ⟨_, rfl, .inl ⟨.xor, _, _, _, rfl, rfl, (b2_wd _), (by decide), rfl, fun H11 s11 => ?_⟩⟩
    refine ⟨(by show 2 ≤ sizeLine; decide), fun l1 n1 => ?_⟩
    have s12 := same_upd (o := .lst [.int (Builtin.bitXor (b2 (decide (a < b))) 1), .int (Builtin.bitXor (b2 (decide (a = b))) 1)]) n1
    have z0 := (L2.Same.trans s10 (L2.Same.trans s11 s12)) _ _ (upd_same (a := l0) (o := .lst [.int (b2 (!decide (a < b))), .int (b2 (!decide (a = b)))]))
    refine ⟨.list [.int (b2 (!decide (a < b))), .int (b2 (!decide (a = b)))], .list [.int (Builtin.bitXor (b2 (decide (a < b))) 1), .int (Builtin.bitXor (b2 (decide (a = b))) 1)], .lst (.inl (.inl z0)) (.cons (.int _) (.cons (.int _) .nil)), .lst (.inl (.inl upd_same)) (.cons (.int _) (.cons (.int _) .nil)), rfl, rfl, _, rfl, iteF' ?_ ?_⟩
    · rw [mo_xor1, mo_xor1, SeqAt.eqv_refl _ rfl]
      rfl
    refine ⟨_, rfl, _, rfl, .inl ⟨.lt, _, _, _, rfl, rfl, hb, ha, rfl, fun H13 s13 => ?_⟩⟩
    refine ⟨_, rfl, _, rfl, .inl ⟨.gt, _, _, _, rfl, rfl, ha, hb, rfl, fun H14 s14 => ?_⟩⟩
    refine ⟨rfl, _, rfl, iteF' (ne_falseI (mo5 _ _)) ?_⟩
    refine ⟨_, rfl, _, rfl, .inl ⟨.and, _, _, _, rfl, rfl, (b2_wd _), (b2_wd _), rfl, fun H15 s15 => ?_⟩⟩
    refine ⟨rfl, _, rfl, iteF' (ne_falseI (mo6 _ _)) ?_⟩
    refine ⟨_, rfl, _, rfl, _, rfl, rfl, .inr ⟨_, rfl, ?_⟩⟩
    refine ⟨rfl, _, rfl, iteF' (ne_falseI (congrArg b2 (decide_eq_decide.mpr ⟨congrArg V.int, V.int.inj⟩))) ?_⟩
    refine ⟨_, rfl, _, rfl, _, rfl, _, _, rfl, rfl, .inr ⟨_, rfl, ?_⟩⟩
    refine ⟨rfl, _, rfl, iteF' (ne_falseI rfl) ?_⟩
    refine ⟨_, rfl, _, rfl, _, rfl, .inl ⟨.lt, _, _, _, rfl, rfl, hb, hc, rfl, fun H16 s16 => ?_⟩⟩
    refine .inl ⟨.and, _, _, _, rfl, rfl, (b2_wd _), (b2_wd _), rfl, fun H17 s17 => ?_⟩
    refine ⟨_, rfl, _, rfl, .inl ⟨.ge, _, _, _, rfl, rfl, ha, hc, rfl, fun H18 s18 => ?_⟩⟩
    refine .inl ⟨.and, _, _, _, rfl, rfl, (band_wd (b2_wd _) (b2_wd _)), (b2_wd _), rfl, fun H19 s19 => ?_⟩
    refine ⟨rfl, bl_cast (eq_trueI (mo9 _ _ _)) (q _ (L2.Same.trans s1 (L2.Same.trans s2 (L2.Same.trans s3 (L2.Same.trans s4 (L2.Same.trans s5 (L2.Same.trans s6 (L2.Same.trans s7 (L2.Same.trans s8 (L2.Same.trans s9 (L2.Same.trans s10 (L2.Same.trans s11 (L2.Same.trans s12 (L2.Same.trans s13 (L2.Same.trans s14 (L2.Same.trans s15 (L2.Same.trans s16 (L2.Same.trans s17 (L2.Same.trans s18 s19)))))))))))))))))))⟩
end
def spIsW : Sp := fun vs H Q _ => ∃ i, vs = [.int i] ∧ Wd i ∧ Q (.bl true) H
abbrev onm (o : Op) : V := .str o.name
def ops10 : List Op := [.add, .sub, .mul, .and, .or, .xor, .shl, .shr, .lt, .eq]
theorem ops10_dbl {o : Op} (h : o ∈ ops10) : o.single = false := by
  revert h
  cases o <;> decide
theorem ops10_ok {o : Op} (h : o ∈ ops10) {a b : Int} (ha : Wd a) (hb : Wd b) : ∃ v, res o a b = .int v ∧ Wd v := by
  revert h
  cases o <;> intro h <;> first
    | exact ⟨_, rfl, wrp_wd _⟩
    | exact ⟨_, rfl, band_wd ha hb⟩
    | exact ⟨_, rfl, bor_wd ha hb⟩
    | exact ⟨_, rfl, bxor_wd ha hb⟩
    | exact ⟨_, rfl, shr_wd ha _⟩
    | exact ⟨_, rfl, b2_wd _⟩
    | exact absurd h (by decide)
section
variable {P : Program} {w : World} {K : PySem.W.Frag} {mg : Str → Option Value} {base : Heap}
theorem g_law_is_word (T : Txt K mg)  : Gives P w K mg base CX0 1 "_law_is_word" spIsW := by
  refine gives_fun T.d_law_is_word sc_law_is_word (fun _ _ _ _ _ _ us hl => match us, hl with | [_], _ => rfl) (fun vs H Q E h => ?_) (fun f cdv A outer s H vs Q E hr h => ?_)
  · obtain ⟨i, rfl, _⟩ := h
    rfl
  · obtain ⟨i, rfl, wi, q⟩ := h
    refine ⟨_, (pss_one (ps_ret (pe_and (pe_callB call_isi (by rfl) T.n_isinstance (by decide +kernel) (pa_cons (pv 0) (pa_cons (pe_bltn (v := .ty "int") (by rfl) T.n_int (by decide +kernel) rfl) pa_nil))) (pe_and (pe_not (pe_callB call_isi (by rfl) T.n_isinstance (by decide +kernel) (pa_cons (pv 0) (pa_cons (pe_bltn (v := .ty "bool") (by rfl) T.n_bool (by decide +kernel) rfl) pa_nil)))) (pe_one (pe_chain op_le op_lt (pe_op op_sub pe_int (pe_powc 2147483648 ⟨by decide, by decide, by decide⟩ (by decide))) (pv 0) (pe_powc 2147483648 ⟨by decide, by decide, by decide⟩ (by decide)))))))), ?_⟩
    refine ⟨_, rfl, _, _, _, _, true, rfl, .ty "int", .base (.int i), kit_ty (by decide +kernel), true, rfl, iteT ⟨_, rfl, _, _, _, _, false, rfl, .ty "bool", .base (.int i), kit_ty (by decide +kernel), false, rfl, true, rfl, iteT ⟨_, _, rfl, rfl, _, rfl, _, _, rfl, rfl, _, rfl, iteT' (decide_eq_true (by unfold Wd at wi; omega)) ⟨_, _, rfl, rfl, bl_cast (decide_eq_true (by unfold Wd at wi; omega)) q⟩⟩⟩⟩
theorem g_law_right (T : Txt K mg) (g_law_draw : Gives P w K mg base CX0 1 "_law_draw" spDraw) (g_law_figure : Gives P w K mg base CX0 2 "_law_figure" spFigure) (g_operate : Gives P w K mg base CX0 4 "operate" spOpI) (g_wrap : Gives P w K mg base CX0 2 "wrap" spWrap) (g_law_sums_right : Gives P w K mg base CX0 5 "_law_sums_right" spR3) (g_law_bits_right : Gives P w K mg base CX0 5 "_law_bits_right" spR3) (g_law_shifts_right : Gives P w K mg base CX0 5 "_law_shifts_right" spR2) (g_law_parts_right : Gives P w K mg base CX0 5 "_law_parts_right" spR2) (g_law_orders_right : Gives P w K mg base CX0 5 "_law_orders_right" spR3) (g_law_is_word : Gives P w K mg base CX0 1 "_law_is_word" spIsW) : Gives P w K mg base CX0 6 "_law_right" spRight := by
  refine gives_fun T.d_law_right sc_law_right (fun _ _ _ _ _ _ us hl => match us, hl with | [_], _ => rfl) (fun vs H Q E h => ?_) (fun f cdv A outer s H vs Q E hr h => ?_)
  · obtain ⟨p, rfl, _⟩ := h
    rfl
  · obtain ⟨p, rfl, hP, q⟩ := h
    refine ⟨_, (pss_cons (ps_for PassesOwn.never rfl (pi_range1 (by rfl) T.n_range (pa_cons pe_int pa_nil)) (pg_name (i := 1) sc_law_right.nd rfl (Or.inl rfl)) (pss_cons (ps_asg (pe_tup (pa_cons (pe_own g_law_figure (hr.mono (by decide)) (by rfl) pass0 (pa_cons (pv 0) pa_nil)) (pa_cons (pe_own g_law_figure (hr.mono (by decide)) (by rfl) pass0 (pa_cons (pv 0) pa_nil)) (pa_cons (pe_own g_law_figure (hr.mono (by decide)) (by rfl) pass0 (pa_cons (pv 0) pa_nil)) pa_nil)))) (pg_tup (by rfl) (pgs_cons (pg_name (i := 2) sc_law_right.nd rfl (Or.inr rfl)) (pgs_cons (pg_name (i := 3) sc_law_right.nd rfl (Or.inr rfl)) (pgs_cons (pg_name (i := 4) sc_law_right.nd rfl (Or.inl rfl)) pgs_nil)))))
      (pss_cons (ps_set (i := 5) sc_law_right.nd rfl (Or.inl rfl) (pe_own g_law_draw (hr.mono (by decide)) (by rfl) pass0 (pa_cons (pv 0) (pa_cons pe_int pa_nil))))
      (pss_cons (ps_set (i := 3) sc_law_right.nd rfl (Or.inr rfl) (pe_ix ix_list (pe_lst (pa_cons (pv 3) (pa_cons (pv 3) (pa_cons (pv 3) (pa_cons (pv 2) (pa_cons (pe_own g_operate (hr.mono (by decide)) (by rfl) pass0 (pa_cons pe_str (pa_cons (pv 2) pa_nil))) pa_nil)))))) (pv 5) (fun _ _ => rfl)))
      (pss_cons (ps_if (PW.pt (pw_or (pt_not (pt_val (pe_own g_law_sums_right (hr.mono (by decide)) (by rfl) pass0 (pa_cons (pv 2) (pa_cons (pv 3) (pa_cons (pv 4) pa_nil)))))) (pw_or (pt_not (pt_val (pe_own g_law_bits_right (hr.mono (by decide)) (by rfl) pass0 (pa_cons (pv 2) (pa_cons (pv 3) (pa_cons (pv 4) pa_nil)))))) (pw_or1 (pt_not (pt_val (pe_own g_law_shifts_right (hr.mono (by decide)) (by rfl) pass0 (pa_cons (pv 2) (pa_cons (pv 3) pa_nil))))))))) (pss_one (ps_ret pe_bl)) pss_nil)
      (pss_cons (ps_if (PW.pt (pw_or (pt_not (pt_val (pe_own g_law_parts_right (hr.mono (by decide)) (by rfl) pass0 (pa_cons (pv 2) (pa_cons (pv 3) pa_nil))))) (pw_or (pt_not (pt_val (pe_own g_law_parts_right (hr.mono (by decide)) (by rfl) pass0 (pa_cons (pv 4) (pa_cons (pv 3) pa_nil))))) (pw_or1 (pt_not (pt_val (pe_own g_law_orders_right (hr.mono (by decide)) (by rfl) pass0 (pa_cons (pv 2) (pa_cons (pv 3) (pa_cons (pv 4) pa_nil)))))))))) (pss_one (ps_ret pe_bl)) pss_nil)
      (pss_cons (ps_setLc (i := 6) (own := [("_law_each", 7)]) rfl sc_law_right.nd rfl rfl (sw_true rfl rfl rfl (by decide +kernel)) (pi_list (pe_lst (pa_cons pe_str (pa_cons pe_str (pa_cons pe_str (pa_cons pe_str (pa_cons pe_str (pa_cons pe_str (pa_cons pe_str (pa_cons pe_str (pa_cons pe_str (pa_cons pe_str pa_nil)))))))))))) (blkOk_by (N := ["_law_pool_here", "_law_turn", "_law_a", "_law_b", "_law_c", "_law_way", "_law_some", "_law_each", "_law_thing"]) (sc := defScope s_law_right) (by decide +kernel)) (fun _ _ _ _ _ => (pg_name (i := 7) sc_law_right.nd rfl (Or.inl rfl))) (fun _ _ _ _ _ => pts_nil) (fun _ _ _ _ _ => (pe_own g_operate (hr.mono (by decide)) (by rfl) pass0 (pa_cons (pv 7) (pa_cons (pv 2) (pa_cons (pv 3) pa_nil))))))
      (pss_one (ps_if (pt_not (pt_val (pe_callB (cr_all rfl) (by rfl) T.n_all (by decide +kernel) (pa_cons (pe_lc (own := [("_law_thing", 8)]) rfl sc_law_right.nd (pi_list (pe_op op_cat (pv 6) (pe_lst (pa_cons (pe_own g_operate (hr.mono (by decide)) (by rfl) pass0 (pa_cons pe_str (pa_cons (pv 2) pa_nil))) (pa_cons (pe_own g_operate (hr.mono (by decide)) (by rfl) pass0 (pa_cons pe_str (pa_cons (pv 2) pa_nil))) (pa_cons (pe_own g_wrap (hr.mono (by decide)) (by rfl) pass0 (pa_cons (pe_op op_mul (pe_op op_mul (pv 2) (pv 3)) (pv 4)) pa_nil)) pa_nil)))))) (blkOk_by (N := ["_law_pool_here", "_law_turn", "_law_a", "_law_b", "_law_c", "_law_way", "_law_some", "_law_each", "_law_thing"]) (sc := defScope s_law_right) (by decide +kernel)) (fun _ _ _ _ _ => (pg_name (i := 8) sc_law_right.nd rfl (Or.inl rfl))) (fun _ _ _ _ _ => pts_nil) (fun _ _ _ _ _ => (pe_own g_law_is_word (hr.mono (by decide)) (by rfl) pass0 (pa_cons (pv 8) pa_nil)))) pa_nil)))) (pss_one (ps_ret pe_bl)) pss_nil)))))))))
      (pss_one (ps_ret pe_bl))), ?_⟩
    refine ⟨30, rfl, by decide, by decide, for_range (lo := 0) (n := 30) (fun _ σ H' => SameBut p H H' ∧ PoolAt H' p ∧ ∃ y1 y2 y3 y4 y5 y6 y7 y8, σ = [some (.ref p), y1, y2, y3, y4, y5, y6, y7, y8]) ⟨SameBut.refl _ _, hP, none, none, none, none, none, none, none, none, rfl⟩ (fun i σ G hi hI => ?_) (fun σ G hI => ?_)⟩
    · obtain ⟨t0, P0, y1, y2, y3, y4, y5, y6, y7, y8, rfl⟩ := hI
      refine ⟨_, rfl, p, rfl, P0, fun H1 a s1 P1 wa => ⟨_, rfl, p, rfl, P1, fun H2 b s2 P2 wb => ⟨_, rfl, p, rfl, P2, fun H3 c s3 P3 wc => ⟨(by show 3 ≤ sizeLine; decide), fun t nt => ?_⟩⟩⟩⟩
      refine ⟨t, _, rfl, .inl (.inl upd_same), rfl, _, _, rfl, _, _, rfl, _, _, rfl, rfl, ?_⟩
      refine ⟨_, rfl, p, 5, rfl, P3.same (same_upd nt), by decide, by decide, fun H4 r s4 P4 r0 r1 => ?_⟩
      have t4 : SameBut p H H4 := (((t0.trans s1).trans s2).trans (s3.new nt)).trans s4
      refine ⟨_, rfl, _, rfl, _, rfl, _, rfl, _, rfl, .inr (.inl ⟨.neg, _, _, rfl, rfl, wa, rfl, fun H5 s5 => ⟨(by show 5 ≤ sizeLine; decide), fun l nl => ?_⟩⟩)⟩
      obtain ⟨b', hb', wb'⟩ := at_ints (P := Wd) [b, b, b, a, wrp (-a)] (by
        intro x hx
        simp only [List.mem_cons, List.not_mem_nil, or_false] at hx
        rcases hx with e | e | e | e | e <;> rw [e] <;> first | exact wa | exact wb | exact wrp_wd _) r0 r1
      refine ⟨_, rfl, l, _, r, .int b', rfl, rfl, .inl (.inl upd_same), hb', ?_⟩
      refine ⟨_, rfl, _, rfl, _, rfl, a, b', c, rfl, wa, wb', wc, fun H6 s6 => ⟨_, rfl, iteF' rfl ?_⟩⟩
      refine ⟨_, rfl, _, rfl, _, rfl, a, b', c, rfl, wa, wb', wc, fun H7 s7 => ⟨_, rfl, iteF' rfl ?_⟩⟩
      refine ⟨_, rfl, _, rfl, a, b', rfl, wa, wb', fun H8 s8 => ⟨_, rfl, iteF' rfl ?_⟩⟩
      refine ⟨_, rfl, _, rfl, a, b', rfl, wa, wb', fun H9 s9 => ⟨_, rfl, iteF' rfl ?_⟩⟩
      refine ⟨_, rfl, _, rfl, c, b', rfl, wc, wb', fun H10 s10 => ⟨_, rfl, iteF' rfl ?_⟩⟩
      refine ⟨_, rfl, _, rfl, _, rfl, a, b', c, rfl, wa, wb', wc, fun H11 s11 => ⟨_, rfl, iteF' rfl ?_⟩⟩
      have u11 : Same H4 H11 := (s5.trans ((same_upd nl).trans (s6.trans (s7.trans (s8.trans (s9.trans (s10.trans s11)))))))
      refine ⟨(by show 10 ≤ sizeLine; decide), fun ls nls => ⟨ls, rfl, ⟨_, .inl (.inl upd_same)⟩, fun D nD => ?_⟩⟩
      have uls := same_upd (o := .lst (ops10.map onm)) nls
      refine lc_list (xs := ops10.map onm) (fun i H' => Same (upd H11 ls (.lst (ops10.map onm))) H' ∧ ∃ ys : List Int, (∀ y ∈ ys, Wd y) ∧ ys.length = i ∧ H' D = some (.lst (ys.map V.int))) ⟨same_upd nD, [], by simp, rfl, upd_same⟩ (fun i H' _ h => .inl (.inl (h.1 _ _ upd_same))) (fun i x H' hx hI => ?_) (fun H' hI => ?_)
      · obtain ⟨u, ys, hy, hl, hD⟩ := hI
        rw [List.getElem?_map] at hx
        obtain ⟨o, ho, rfl⟩ := Option.map_eq_some_iff.mp hx
        have hm : o ∈ ops10 := List.mem_of_getElem? ho
        obtain ⟨v, hv, wv⟩ := ops10_ok hm wa wb'
        have hi10 : i < 10 := (List.getElem?_eq_some_iff.mp ho).1
        refine ⟨rfl, ⟨_, rfl, _, rfl, _, rfl, .inl ⟨o, a, b', v, rfl, ops10_dbl hm, wa, wb', hv, fun H'' s'' => ⟨_, s'' _ _ hD, by rw [List.length_map, hl]; exact small1000 (by omega), ?_⟩⟩⟩⟩
        refine ⟨fun z oz hz => ?_, ys ++ [v], ?_, by rw [List.length_append, hl]; rfl, by rw [upd_same, List.map_append]; rfl⟩
        · have nz : z ≠ D := ne_of_none hz nD
          rw [upd_ne nz]
          exact s'' _ _ (u _ _ hz)
        · intro y hy2
          rcases List.mem_append.mp hy2 with e | e
          · exact hy y e
          · rw [List.mem_singleton.mp e]
            exact wv
      · obtain ⟨u, ys, hy, hl, hD⟩ := hI
        refine ⟨_, rfl, _, rfl, .inr (.inl ⟨.neg, _, _, rfl, rfl, wa, rfl, fun H12 s12 => ⟨_, rfl, .inr (.inl ⟨.not, _, _, rfl, rfl, wa, rfl, fun H13 s13 => ?_⟩)⟩⟩)⟩
        refine ⟨_, rfl, _, rfl, _, _, rfl, rfl, cm_wd wa, _, rfl, _, _, rfl, rfl, .inr ⟨by unfold Wd at wc; omega, by unfold Wd at wc; omega⟩, _, rfl, (by show 3 ≤ sizeLine; decide), fun l3 n3 => ?_⟩
        have hD3 := (s12.trans (s13.trans (same_upd (o := .lst [.int (wrp (-a)), .int (wrp (-a - 1)), .int (wrp (a * b' * c))]) n3))) _ _ hD
        refine ⟨D, l3, _, _, rfl, rfl, hD3, upd_same, (by rw [List.length_map, hl]; show 10 + 3 ≤ sizeLine; decide), fun l4 n4 => ⟨l4, rfl, ⟨_, .inl (.inl upd_same)⟩, fun D2 nD2 => ?_⟩⟩
        have e4 : ys.map V.int ++ [V.int (wrp (-a)), V.int (wrp (-a - 1)), V.int (wrp (a * b' * c))] = (ys ++ [wrp (-a), wrp (-a - 1), wrp (a * b' * c)]).map V.int := by rw [List.map_append]; rfl
        have u4 := same_upd (o := .lst (ys.map V.int ++ [V.int (wrp (-a)), V.int (wrp (-a - 1)), V.int (wrp (a * b' * c))])) n4
        have wz : ∀ z ∈ ys ++ [wrp (-a), wrp (-a - 1), wrp (a * b' * c)], Wd z := by
          intro z hz
          rcases List.mem_append.mp hz with e | e
          · exact hy z e
          · simp only [List.mem_cons, List.not_mem_nil, or_false] at e
            rcases e with e | e | e <;> rw [e] <;> exact wrp_wd _
        have lz : (ys ++ [wrp (-a), wrp (-a - 1), wrp (a * b' * c)]).length = 13 := by rw [List.length_append, hl]; rfl
        refine lc_list (xs := (ys ++ [wrp (-a), wrp (-a - 1), wrp (a * b' * c)]).map V.int) (fun i H'' => Same (upd (upd H13 l3 (.lst [V.int (wrp (-a)), V.int (wrp (-a - 1)), V.int (wrp (a * b' * c))])) l4 (.lst (ys.map V.int ++ [V.int (wrp (-a)), V.int (wrp (-a - 1)), V.int (wrp (a * b' * c))]))) H'' ∧ H'' D2 = some (.lst ((List.replicate i true).map V.bl))) ⟨same_upd nD2, upd_same⟩ (fun i H'' _ h => .inl (.inl (by rw [← e4]; exact h.1 _ _ upd_same))) (fun i x H'' hx hI => ?_) (fun H'' hI => ?_)
        · obtain ⟨u', hD2⟩ := hI
          rw [List.getElem?_map] at hx
          obtain ⟨z, hz, rfl⟩ := Option.map_eq_some_iff.mp hx
          have hi13 : i < 13 := by rw [← lz]; exact (List.getElem?_eq_some_iff.mp hz).1
          refine ⟨rfl, ⟨_, rfl, z, rfl, wz z (List.mem_of_getElem? hz), _, hD2, by rw [List.length_map, List.length_replicate]; exact small1000 (by omega), fun v ov hv => ?_, ?_⟩⟩
          · have nv : v ≠ D2 := ne_of_none hv nD2
            rw [upd_ne nv]
            exact u' _ _ hv
          · rw [upd_same, List.replicate_succ', List.map_append]
            rfl
        · obtain ⟨u', hD2⟩ := hI
          refine ⟨D2, _, rfl, .inl (.inl hD2), _, rfl, iteF' (by simp) ?_⟩
          have uAll : Same H4 H'' := u11.trans (uls.trans (u.trans (s12.trans (s13.trans ((same_upd n3).trans (u4.trans u'))))))
          exact ⟨t4.trans (.of uAll), P4.same uAll, _, _, _, _, _, _, _, _, rfl⟩
    · obtain ⟨t0, P0, y1, y2, y3, y4, y5, y6, y7, y8, rfl⟩ := hI
      exact q G t0 P0
theorem ok_law {f : Addr} {fd : FuncData} (T : Txt K mg) (F : Fun K "law" "law" s_law f fd) (g_law_cell : Gives P w K mg base CX0 1 "_law_cell" (spCell K)) (g_law_pool : Gives P w K mg base CX0 1 "_law_pool" spPool) (g_law_right : Gives P w K mg base CX0 6 "_law_right" spRight) : FnOk P w K mg base CX0 7 f fd ["_law_script"] (spLaw K) := by
  refine F.ok sc_law (fun vs H Q E h => ?_) (fun cdv A outer s H vs Q E hr h => ?_)
  · obtain ⟨a, ns, rfl, _⟩ := h
    rfl
  · obtain ⟨a, ns, rfl, hS, hl, hbit, q⟩ := h
    refine ⟨_, (pss_one (ps_ret (pe_callB (cr_all rfl) (by rfl) T.n_all (by decide +kernel) (pa_cons (pe_lc (own := [("_law_k", 1)]) rfl sc_law.nd (pi_range1 (by rfl) T.n_range (pa_cons (pe_callB (call_max2 rfl) (by rfl) T.n_max (by decide +kernel) (pa_cons pe_int (pa_cons (pe_callB (call_min2 rfl) (by rfl) T.n_min (by decide +kernel) (pa_cons (pe_callB call_len_seq (by rfl) T.n_len (by decide +kernel) (pa_cons (pv 0) pa_nil)) (pa_cons pe_int pa_nil))) pa_nil))) pa_nil)) (blkOk_by (N := ["_law_script", "_law_k"]) (sc := defScope s_law) (by decide +kernel)) (fun _ _ _ _ _ => (pg_name (i := 1) sc_law.nd rfl (Or.inl rfl))) (fun _ _ _ _ _ => pts_nil) (fun _ _ _ _ _ => (pe_own g_law_right (hr.mono (by decide)) (by rfl) pass0 (pa_cons (pe_own g_law_pool (hr.mono (by decide)) (by rfl) pass0 (pa_cons (pe_own g_law_cell (hr.mono (by decide)) (by rfl) pass0 (pa_cons (pv 0) (pa_cons (pv 1) pa_nil))) pa_nil)) pa_nil)))) pa_nil)))), ?_⟩
    have hlen : (((ns.map V.int).length : Nat) : Int) = (ns.length : Int) := by rw [List.length_map]
    refine ⟨_, rfl, a, _, rfl, .inl hS, _, _, rfl, _, _, rfl, _, rfl, by rw [hlen]; split <;> split <;> omega, by rw [hlen]; split <;> split <;> omega, fun D nD => ?_⟩
    refine lc_range (fun i H' => Same H H' ∧ H' D = some (.lst ((List.replicate i true).map V.bl))) ⟨same_upd nD, upd_same⟩ (fun i H' hi hI => ?_) (fun H' hI => ?_)
    · obtain ⟨sm, hD⟩ := hI
      have hi63 : i < 1000 := by
        have h2 := hi
        rw [hlen] at h2
        split at h2 <;> split at h2 <;> omega
      refine ⟨rfl, ⟨_, rfl, _, rfl, a, ns, _, rfl, sm.seq hS, hl, by omega, by omega, fun H1 r s1 => ⟨r, rfl, fun H2 p s2 np P2 => ⟨p, rfl, P2, fun H3 s3 P3 => ?_⟩⟩⟩⟩
      have hD2 : H2 D = some (.lst ((List.replicate i true).map V.bl)) := s2 _ _ (s1 _ _ hD)
      have nDp : D ≠ p := ne_of_none (s1 _ _ hD) np
      refine ⟨_, s3.at hD2 nDp, by rw [List.length_map, List.length_replicate]; exact small1000 (by omega), fun v ov hv => ?_, ?_⟩
      · have nv : v ≠ D := ne_of_none hv nD
        have nv2 : v ≠ p := ne_of_none (s1 _ _ (sm _ _ hv)) np
        rw [upd_ne nv]
        exact s3.at (s2 _ _ (s1 _ _ (sm _ _ hv))) nv2
      · rw [upd_same, List.replicate_succ', List.map_append]
        rfl
    · obtain ⟨sm, hD⟩ := hI
      exact ⟨D, _, rfl, .inl (.inl hD), bl_cast (by simp) (q _)⟩
end
end Cb

end

section
set_option maxRecDepth 100000
set_option maxHeartbeats 4000000
namespace Cb
open PySem PySem.Spec PyProof.Rows L2
theorem fin {P : Program} {w : World} {K : PySem.W.Frag} {mg : Str → Option Value} {fa : Addr} {h : Heap} (X : K.In h) (T : Txt K mg) (hmg : mg "law" = some (.ref fa)) :
    ∃ fd : FuncData, (∀ (s : Shared) (u : Value), BindsTo s fd ⟨[u], []⟩ [("_law_script", u)]) ∧ ∀ base : Heap, K.In base → base.Ns mainGlobals mg → FnOk P w K mg base CX0 7 fa fd ["_law_script"] (spLaw K) := by
  obtain ⟨f, fd, hm, F⟩ := T.d_law
  have e : f = fa := by
    have e2 := hm.symm.trans hmg
    injection e2 with e3
    injection e3
  subst e
  refine ⟨fd, Fun.bindsAll F (fun _ _ _ _ _ _ _ => rfl), fun base _ _ => ?_⟩
  have i1 := g_is_integer (P := P) (w := w) (base := base) T
  have i2 := g_is_word T i1
  have i3 := g_wrapped (P := P) (w := w) (base := base) T
  have i4 := g_quotient_of (P := P) (w := w) (base := base) T
  have i5 := g_compared (P := P) (w := w) (base := base) T
  have i6 := g_bits_of T i3
  have i7 := g_result_of T i3 i4 i5 i6
  have i8 := g_wrap T i3 i1
  have i9 := g_opI (g_operate T i2 i7)
  have j1 := g_law_cell (P := P) (w := w) (base := base) T
  have j2 := g_law_pool (P := P) (w := w) (base := base) T
  have j3 := g_law_draw (P := P) (w := w) (base := base) T
  have j4 := g_law_figure T j3
  have j5 := g_law_is_word (P := P) (w := w) (base := base) T
  have j6 := g_law_right T j3 j4 i9 i8 (g_law_sums_right T i9 i8) (g_law_bits_right T i9) (g_law_shifts_right T i9 i8) (g_law_parts_right T i9) (g_law_orders_right T i9) j5
  exact ok_law T F j1 j2 j6
end Cb

end
open PySem PySem.W PyProof.Rows
set_option maxRecDepth 100000 in
set_option maxHeartbeats 0 in
theorem PySem.Challenge.cw_codeback_k03_whole_operations_by_rules_holds : PySem.Challenge.rw_codeback_k03_whole_operations_by_rules.Holds := by
  w_on; o_law; k_head; (case hw => w_witness2)
  k_fill
  refine L2.walk_ofB (l := PySem.Challenge.rw_codeback_k03_whole_operations_by_rules) (n := 63) (k := 7) (x := "_law_script") (CX := fun _ => L2.CX0) (sp := fun w => Cb.spLaw _) rfl (by decide) rfl ⟨rfl, by decide, by decide⟩ (fun w h Y => PySem.W.kIn_of Y) ?F (fun _ _ a ns hl hb _ hS => ⟨a, ns, rfl, hS, hl, hb, fun _ => rfl⟩) (fun _ _ _ _ _ h => h)
  case F =>
    intro w mg fa h KX G hmg
    refine Cb.fin KX ?T hmg
    case T =>
      refine' ⟨?d0, ?d1, ?d2, ?d3, ?d4, ?d5, ?d6, ?d7, ?d8, ?d9, ?d10, ?d11, ?d12, ?d13, ?d14, ?d15, ?d16, ?d17, ?d18, ?d19, ?d20, ?b0, ?b1, ?b2, ?b3, ?b4, ?b5, ?b6, ?b7, ?b8, ?b9, ?b10, ?b11, ?c0, ?c1, ?c2, ?c3⟩
      case d0 => refine' Cb.stands_mk KX G ?a ?l ?c ?k; (case a => k_is); (case l => k_is); (case c => k_is); (case k => k_is)
      case d1 => refine' Cb.stands_mk KX G ?a ?l ?c ?k; (case a => k_is); (case l => k_is); (case c => k_is); (case k => k_is)
      case d2 => refine' Cb.stands_mk KX G ?a ?l ?c ?k; (case a => k_is); (case l => k_is); (case c => k_is); (case k => k_is)
      case d3 => refine' Cb.stands_mk KX G ?a ?l ?c ?k; (case a => k_is); (case l => k_is); (case c => k_is); (case k => k_is)
      case d4 => refine' Cb.stands_mk KX G ?a ?l ?c ?k; (case a => k_is); (case l => k_is); (case c => k_is); (case k => k_is)
      case d5 => refine' Cb.stands_mk KX G ?a ?l ?c ?k; (case a => k_is); (case l => k_is); (case c => k_is); (case k => k_is)
      case d6 => refine' Cb.stands_mk KX G ?a ?l ?c ?k; (case a => k_is); (case l => k_is); (case c => k_is); (case k => k_is)
      case d7 => refine' Cb.stands_mk KX G ?a ?l ?c ?k; (case a => k_is); (case l => k_is); (case c => k_is); (case k => k_is)
      case d8 => refine' Cb.stands_mk KX G ?a ?l ?c ?k; (case a => k_is); (case l => k_is); (case c => k_is); (case k => k_is)
      case d9 => refine' Cb.stands_mk KX G ?a ?l ?c ?k; (case a => k_is); (case l => k_is); (case c => k_is); (case k => k_is)
      case d10 => refine' Cb.stands_mk KX G ?a ?l ?c ?k; (case a => k_is); (case l => k_is); (case c => k_is); (case k => k_is)
      case d11 => refine' Cb.stands_mk KX G ?a ?l ?c ?k; (case a => k_is); (case l => k_is); (case c => k_is); (case k => k_is)
      case d12 => refine' Cb.stands_mk KX G ?a ?l ?c ?k; (case a => k_is); (case l => k_is); (case c => k_is); (case k => k_is)
      case d13 => refine' Cb.stands_mk KX G ?a ?l ?c ?k; (case a => k_is); (case l => k_is); (case c => k_is); (case k => k_is)
      case d14 => refine' Cb.stands_mk KX G ?a ?l ?c ?k; (case a => k_is); (case l => k_is); (case c => k_is); (case k => k_is)
      case d15 => refine' Cb.stands_mk KX G ?a ?l ?c ?k; (case a => k_is); (case l => k_is); (case c => k_is); (case k => k_is)
      case d16 => refine' Cb.stands_mk KX G ?a ?l ?c ?k; (case a => k_is); (case l => k_is); (case c => k_is); (case k => k_is)
      case d17 => refine' Cb.stands_mk KX G ?a ?l ?c ?k; (case a => k_is); (case l => k_is); (case c => k_is); (case k => k_is)
      case d18 => refine' Cb.stands_mk KX G ?a ?l ?c ?k; (case a => k_is); (case l => k_is); (case c => k_is); (case k => k_is)
      case d19 => refine' Cb.stands_mk KX G ?a ?l ?c ?k; (case a => k_is); (case l => k_is); (case c => k_is); (case k => k_is)
      case d20 => refine' Cb.stands_mk KX G ?a ?l ?c ?k; (case a => k_is); (case l => k_is); (case c => k_is); (case k => k_is)
      case b0 => refine' PySem.W.mg_none_of KX G ?z; (case z => k_is)
      case b1 => refine' PySem.W.mg_none_of KX G ?z; (case z => k_is)
      case b2 => refine' PySem.W.mg_none_of KX G ?z; (case z => k_is)
      case b3 => refine' PySem.W.mg_none_of KX G ?z; (case z => k_is)
      case b4 => refine' PySem.W.mg_none_of KX G ?z; (case z => k_is)
      case b5 => refine' PySem.W.mg_none_of KX G ?z; (case z => k_is)
      case b6 => refine' PySem.W.mg_none_of KX G ?z; (case z => k_is)
      case b7 => refine' PySem.W.mg_none_of KX G ?z; (case z => k_is)
      case b8 => refine' PySem.W.mg_none_of KX G ?z; (case z => k_is)
      case b9 => refine' PySem.W.mg_none_of KX G ?z; (case z => k_is)
      case b10 => refine' PySem.W.mg_none_of KX G ?z; (case z => k_is)
      case b11 => refine' PySem.W.mg_none_of KX G ?z; (case z => k_is)
      case c0 => refine' Cb.globi_mk KX G ?a; (case a => k_is)
      case c1 => refine' Cb.globi_mk KX G ?a; (case a => k_is)
      case c2 => refine' Cb.globt_mk KX G ?a ?l ?v ?z; (case a => k_is); (case l => k_is); (case v => repeat (first | exact .nil | refine .cons ⟨_, rfl⟩ ?_)); (case z => decide)
      case c3 => refine' Cb.globt_mk KX G ?a ?l ?v ?z; (case a => k_is); (case l => k_is); (case v => repeat (first | exact .nil | refine .cons ⟨_, rfl⟩ ?_)); (case z => decide)
#print axioms PySem.Challenge.cw_codeback_k03_whole_operations_by_rules_holds

