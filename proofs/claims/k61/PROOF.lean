import PyProof.Rows.All
import Wide.All
import OpenK.AllK
import Wide.FinOn
import HandS.ForMost
import HandS.Star
import HandS.IsInst
import HandS.WideBits
import HandS.EndBits
import HandS.Style
import HandS.Flow
import KE.GoesEnum
import KE.GoesMore
import KE.BitLaws
import PyProof.ReprRoads
import HandS.Ends
import PySem.Challenge.RW_codeback_k61_patterns_told
set_option Elab.async false
set_option linter.all false
section
set_option maxRecDepth 100000
set_option maxHeartbeats 4000000
namespace Cb
open PySem PySem.Spec PyProof.Rows L2

/-! ### a def of the module by its name: what it promises -/
def Gives (P : Program) (w : World) (K : PySem.W.Frag) (mg : Str → Option Value) (base : Heap) (CX : CXT) (k : Nat) (x : Str) (sp : Sp) : Prop :=
  ∃ f, mg x = some (.ref f) ∧ PySem.W.keepIn K (.ref f) = true ∧ FnR P w K mg base CX k f sp
/-- the reading of such a call -/
def tOwn (sp : Sp) (E : XK) (t : TA) : TE := fun σ H Q => t σ H fun vs H1 => sp vs H1 Q E
section
variable {X : Cx} {CX : CXT} {k : Nat} {sp : Sp} {E : XK} {x : Str} {e : Expr} {es : List Expr} {t : TA} {p pos : Pos}
/-- x(e, ..), x a def of the module, by its positional promise -/
theorem pe_own (F : Gives X.prog X.w X.K X.mg X.base CX k x sp) (hr : Room k X.A) (hg : Gl X x) (hx : Passes CX X E) (ha : PA X (e :: es) t) (hdb : (x == ("__debug__" : Str)) = false := by decide)
    (he : starEach (e :: es) X.env = (false, eval e X.env) :: starEach es X.env := by rfl) (hpl : (backTo pos (starEach es X.env)).any (·.1) = false := by rfl) :
    PE X (.Call (.Name x p) (e :: es) [] pos) (tOwn sp E t) := by
  obtain ⟨f, hm, hk, F⟩ := F
  refine ⟨fun pins s σ H Q I h => ?_⟩
  refine wpAny_Call_Name_kw (ld_glob I hg hm ?_ hdb)
  refine PySem.W.callWith_K (h₀ := X.base) I.ok.mod.kin hk (thn (ha.run pos pins s σ H _ I h) fun us s1 ⟨vs, H1, I1, r, q⟩ => ⟨I1.kIn, ?_⟩) he hpl
  exact wpAny_call (run_fnR F hr hx I1 r q)
/-- x() -/
theorem pe_own0 (F : Gives X.prog X.w X.K X.mg X.base CX k x sp) (hr : Room k X.A) (hg : Gl X x) (hx : Passes CX X E) (hdb : (x == ("__debug__" : Str)) = false := by decide) :
    PE X (.Call (.Name x p) [] [] pos) (tOwn sp E tNil) := by
  obtain ⟨f, hm, hk, F⟩ := F
  refine ⟨fun pins s σ H Q I h => ?_⟩
  refine wpAny_Call_Name_kw (ld_glob I hg hm ?_ hdb)
  exact PySem.W.callWith_K0 I.kIn hk (wpAny_call (run_fnR F hr hx I .nil h))
end
theorem gives_of {P : Program} {w : World} {K : PySem.W.Frag} {mg : Str → Option Value} {base : Heap} {CX : CXT} {k : Nat} {x : Str} {sp : Sp} {f : Addr} {fd : FuncData} {ps : List Str} (hm : mg x = some (.ref f)) (hk : PySem.W.keepIn K (.ref f) = true) (F : FnOk P w K mg base CX k f fd ps sp) (b : Binds K fd ps []) :
    Gives P w K mg base CX k x sp := ⟨f, hm, hk, by
  intro A outer s H us vs Q E hr e0 r hsp
  have hl := F.len vs H Q E hsp
  have KX : K.In s.heap := e0.mod.kin.keeps fun b o e => (e0.bs b o e).1
  have hb := b s us KX (by rw [List.append_nil, ← r.length]; exact hl)
  rw [List.append_nil] at hb
  exact F.run A outer s H _ us vs Q E hr e0 hb r hsp⟩

/-! ### heaps that only grow -/
theorem same_upd {H : Hp} {p : Addr} {o : HO} (h : H p = none) : Same H (upd H p o) := fun b x e => by
  rw [upd_ne (ne_of_none e h)]
  exact e
theorem Same.upd {H H1 : Hp} {p : Addr} {o : HO} (s : Same H H1) (h : H1 p = none) : Same H (upd H1 p o) := s.trans (same_upd h)
/-- all but a stays -/
def SameBut (a : Addr) (H H' : Hp) : Prop := ∀ b o, b ≠ a → H b = some o → H' b = some o
theorem SameBut.refl (a : Addr) (H : Hp) : SameBut a H H := fun _ _ _ h => h
theorem SameBut.of {a : Addr} {H H' : Hp} (s : Same H H') : SameBut a H H' := fun b o _ h => s b o h
theorem SameBut.trans {a : Addr} {H H1 H2 : Hp} (s : SameBut a H H1) (t : SameBut a H1 H2) : SameBut a H H2 := fun b o n h => t b o n (s b o n h)
theorem SameBut.upd {a : Addr} {H H1 : Hp} {o : HO} (s : SameBut a H H1) : SameBut a H (upd H1 a o) := fun b x n h => by
  rw [upd_ne n]
  exact s b x n h
theorem SameBut.new {a : Addr} {H H1 : Hp} {p : Addr} {o : HO} (s : SameBut a H H1) (h : H1 p = none) : SameBut a H (L2.upd H1 p o) := s.trans (.of (same_upd h))
theorem sqt_same {K : PySem.W.Frag} {H H' : Hp} {a : Addr} {xs : List V} (e : Same H H') (h : SqT K H a xs) : SqT K H' a xs := by
  rcases h with (h | ⟨o, h⟩) | h
  · exact .inl (.inl (e _ _ h))
  · exact .inl (.inr ⟨o, e _ _ h⟩)
  · exact .inr h

/-! ### enumerate(tuple) -/
set_option maxHeartbeats 1000000 in
theorem meets_enumerate_new1 {v : Value} {o : Obj} {H : Heap → Prop} (B : Begins v o H) :
    Meets (Builtin.«enumerate.__new__» ⟨[.type "enumerate", v], []⟩) (fun _ R s => H s.heap ∧
      R (.ok (.ret (.ref (s.heap.push o).objs.size))) { s with heap := (s.heap.push o).push { cls := .type "enumerate", data := .fields #[.none, .bool false, .ref s.heap.objs.size, rawInt 0, .none, .none] } }) :=
  .of_wp fun prog w A R s h => by
    obtain ⟨hp, g, d, tk, os⟩ := s; obtain ⟨h1, h⟩ := h
    have hsub := sub_enumerate
    have q1 : ∀ {A' : Around} {E : Value → Shared → Prop} {Q : Value → Shared → Prop}, Q (.ref hp.objs.size) ⟨hp.push o, g, d, tk, os⟩ → wpAny (model prog w) A' (pyIter v) Q E ⟨hp, g, d, tk, os⟩ :=
      fun q => B.iter prog w _ _ ⟨hp, g, d, tk, os⟩ _ h1 q
    wp_walk using q1
    refine wpAny_stack_any fun st => wpAny_pure ?_
    split
    · rename_i c _ _ _ _ _
      cases (c == Value.type "enumerate")
      · wp_walk using q1
        exact ⟨_, rfl, h⟩
      · wp_walk using q1
        exact ⟨_, rfl, h⟩
    · wp_walk using q1
      exact ⟨_, rfl, h⟩
section
variable {prog : Program} {w : World} {A : Around} {E : Value → Shared → Prop} {s : Shared}
theorem enum_begins1 {v : Value} {o : Obj} {H : Heap → Prop} {Q : Value → Shared → Prop} (B : Begins v o H) (h1 : H s.heap)
    (h : ∀ h', IsEnum h' (s.heap.objs.size + 1) s.heap.objs.size 0 .none → h'.get? s.heap.objs.size = some o → h'.objs.size = s.heap.objs.size + 2 →
      (∀ b o, s.heap.get? b = some o → h'.get? b = some o) → Q (.ref (s.heap.objs.size + 1)) { s with heap := h' }) :
    wpAny (model prog w) A (call (.type "enumerate") [v]) Q E s := by
  refine callType_new F.called_enumerate (by decide) (F.typeCall_enumerate_1 _) (F.newCall_enumerate_1 _) (fun obj => F.args_object_init_2 obj _) F.entry_enumerate_new
    (meets_enumerate_new1 B) ⟨h1, ?_⟩
  have hz : (s.heap.push o).objs.size = s.heap.objs.size + 1 := Heap.size_push ..
  show _ ∧ _
  rw [hz]
  have he : IsEnum ((s.heap.push o).push { cls := .type "enumerate", data := .fields #[.none, .bool false, .ref s.heap.objs.size, rawInt 0, .none, .none] }) (s.heap.objs.size + 1) s.heap.objs.size 0 .none := by
    have := Heap.get?_push_size (s.heap.push o) (o := { cls := .type "enumerate", data := .fields #[.none, .bool false, .ref s.heap.objs.size, rawInt 0, .none, .none] }) rfl
    rw [hz] at this; exact this
  refine ⟨⟨_, he, rfl⟩, h _ he (Heap.get?_push_of_some _ (Heap.get?_push_size _ B.free)) (by rw [Heap.size_push, hz]) fun b o x => Heap.get?_push_of_some _ (Heap.get?_push_of_some _ x)⟩
end
/-- the tuple at a, each item in a new pair -/
def IteT (K : PySem.W.Frag) (a : Addr) : It :=
  ⟨fun i H => ∃ (xs : List V) (x : V), SqT K H a xs ∧ xs[i]? = some x, fun i H v H' => ∃ T x, v = .ref T ∧ H T = none ∧ H' = upd H T (.tup [.int (i : Nat), x]) ∧ ∀ xs, SqT K H a xs → xs[i]? = some x, fun i H => ∃ xs : List V, SqT K H a xs ∧ xs.length = i⟩
theorem turn_enumT {P : Program} {w : World} {K : PySem.W.Frag} {elts : List Expr} {kk : Nat} {tpos : Pos} (a e it : Addr) :
    Turn P w K (.Tuple elts kk tpos) (IteT K a) [e, it] e (fun i h => (∃ old, IsEnum h e it ((i : Nat) : Int) old) ∧ h.IsTupleIter it a i ∧ e ≠ it ∧ a ≠ it ∧ a ≠ e) where
  mem := by simp
  obj := fun i h st b hb => by
    obtain ⟨⟨old, he⟩, ⟨o, ho, hc, hd⟩, _⟩ := st
    have e' : b = e ∨ b = it := by simpa using hb
    rcases e' with z | z
    · rw [z]; exact ⟨_, he, fun v q => nomatch q⟩
    · rw [z]; exact ⟨o, ho, fun v q => by rw [hd] at q; cases q⟩
  keep := fun i h h' st k => let ⟨⟨old, he⟩, hi, hne⟩ := st; ⟨⟨old, k e (by simp) _ he⟩, hi.at fun o q => k it (by simp) o q, hne⟩
  item := by
    intro X hP hw hK hc i pins s σ H E I hf st hg
    subst hP hw hK
    obtain ⟨⟨old, he⟩, hit, hne, hai, hae⟩ := st
    obtain ⟨xs, x, hq, hx⟩ := hg
    obtain ⟨its, rv, p, hz⟩ := I.tuple hq
    obtain ⟨u, hu, ru⟩ := rv.get hx
    have hel : e < s.heap.objs.size := Heap.lt_size he
    have hil : it < s.heap.objs.size := by obtain ⟨_, q, _⟩ := hit; exact Heap.lt_size q
    have hlt : i < its.toArray.size := by
      rw [List.size_toArray]
      exact (List.getElem?_eq_some_iff.mp hu).1
    refine wpAny_pyNext_enum_itemD (Draws.tuple (show X.A.in1.handled = none from I.ok.hd hc) it a hai its.toArray) he ⟨hit, show s.heap.IsTuple a its.toArray from p⟩ hlt hne (by simp; exact ⟨hne, Ne.symm hae⟩) fun v h' tk hv ho hst hT hsz hk => ?_
    have ev : v = u := by
      have e1 : its[i]? = some v := by simpa using hv
      rw [hu] at e1
      exact (Option.some.inj e1).symm
    subst ev
    refine ⟨_, rfl, wpAny_letOwnedTupleGo_enum (s := { s with heap := h', toks := tk + 1 }) ho fun h'' he' sb => ?_⟩
    have hT2 : h''.get? s.heap.objs.size = some { cls := .type "tuple", data := .seq #[.int i tk, v] } := (sb.2 _ (Nat.ne_of_gt hel)).trans hT
    have new : ObjOk X.prog X.w (upd H s.heap.objs.size (.tup [.int (i : Nat), x])) h'' s.heap.objs.size (.tup [.int (i : Nat), x]) :=
      ⟨by show 2 ≤ sizeLine; decide, [.int i tk, v], .cons ⟨_, rfl⟩ (.cons ru .nil), ⟨_, hT2, rfl, _, rfl⟩⟩
    have I1 : Inv X pins σ (upd H s.heap.objs.size (.tup [.int (i : Nat), x])) { s with heap := h'', toks := tk + 1 } :=
      I.turnedNew (ch := [e, it]) (fun b ob hb q => (sb.2 b (fun z => hb (by simp [z]))).trans (hk b ob (fun z => hb (by simp [z])) (fun z => hb (by simp [z])) q)) hf (Nat.le_refl _) new
    refine ⟨.ref s.heap.objs.size, _, I1, rfl, ⟨_, x, rfl, I.hok.fresh (Nat.le_refl _), rfl, fun ys hy => by rw [I.tuple_inj hy hq]; exact hx⟩, ⟨⟨v, ?_⟩, hst.1.at fun o q => (sb.2 it (Ne.symm hne)).trans q, hne, hai, hae⟩, fun b hb => ?_⟩
    · have e1 : ((i + 1 : Nat) : Int) = (i : Int) + 1 := by omega
      rw [e1]; exact he'
    · have hb' : b < s.heap.objs.size := by
        have e' : b = e ∨ b = it := by simpa using hb
        rcases e' with z | z
        · rw [z]; exact hel
        · rw [z]; exact hil
      rw [upd_ne (Nat.ne_of_lt hb')]
      exact (hf b hb).1
  done := by
    intro X hP hw hK hc i pins s σ H E I hf st hg
    subst hP hw hK
    obtain ⟨⟨old, he⟩, hit, hne, hai, hae⟩ := st
    obtain ⟨xs, hq, hx⟩ := hg
    obtain ⟨its, rv, p, hz⟩ := I.tuple hq
    obtain ⟨f0, f1, f2, f3, f4, f5⟩ := hf it (by simp)
    have hl := rv.length
    have ei : its.toArray.size = i := by
      rw [List.size_toArray]
      omega
    refine wpAny_pyNext_enum_endD (Draws.tuple (show X.A.in1.handled = none from I.ok.hd hc) it a hai its.toArray) he ⟨?_, show s.heap.IsTuple a its.toArray from p⟩ fun h' eb => ⟨rfl, I.turned (t' := s.toks) (fun b o hb q => eb b o hb q) f0 f1 f3 f4 f5⟩
    rw [ei]
    exact hit
  self := fun A i s Q E st h => let ⟨⟨_, he⟩, _⟩ := st; wpAny_pyIter_enum he h
theorem for_enumT {K : PySem.W.Frag} {a : Addr} {xs : List V} {g : TG} {tb : TS} {D : Ends} {σ : L2.St} {H : Hp} (Pv : Nat → L2.St → Hp → Prop) (h0 : Pv 0 σ H) (hl : ∀ i σ H, i ≤ xs.length → Pv i σ H → SqT K H a xs)
    (hs : ∀ i x σ H T, xs[i]? = some x → Pv i σ H → H T = none → g (.ref T) σ (upd H T (.tup [.int (i : Nat), x])) fun σ2 H2 => tb { D with nx := Pv (i + 1), ct := Pv (i + 1), bk := D.nx } σ2 H2) (hd : ∀ σ H, Pv xs.length σ H → D.nx σ H) :
    ∃ W : Nat → Nat → L2.St → Hp → Prop, (∃ m, W 0 m σ H) ∧ ∀ i m σ H, W i m σ H →
      ((IteT K a).stop i H ∧ D.nx σ H) ∨ ((IteT K a).go i H ∧ ∃ N : L2.St → Hp → Prop, (∀ σ' H', N σ' H' → ∃ m', m' < m ∧ W (i + 1) m' σ' H') ∧ ∀ x H', (IteT K a).yld i H x H' → g x σ H' fun σ2 H2 => tb { D with nx := N, ct := N, bk := D.nx } σ2 H2) := by
  refine ⟨fun i m σ H => m = xs.length - i ∧ i ≤ xs.length ∧ Pv i σ H, ⟨xs.length, by simp, Nat.zero_le _, h0⟩, ?_⟩
  rintro i m σ H ⟨rfl, hi, p⟩
  have q := hl i σ H hi p
  by_cases hlt : i < xs.length
  · have hx : xs[i]? = some xs[i] := List.getElem?_eq_getElem hlt
    refine .inr ⟨⟨xs, _, q, hx⟩, Pv (i + 1), fun σ' H' p' => ⟨xs.length - (i + 1), by omega, rfl, hlt, p'⟩, fun v H' hy => ?_⟩
    obtain ⟨T, x, rfl, hT, rfl, f⟩ := hy
    exact hs i x σ H T (f xs q) p hT
  · obtain rfl : i = xs.length := by omega
    exact .inl ⟨⟨xs, q, rfl⟩, hd σ H p⟩
def iEnumT (K : PySem.W.Frag) (ta : TA) : TI := fun σ H R => ta σ H fun vs H1 => ∃ a xs, vs = [.ref a] ∧ SqT K H1 a xs ∧ R (IteT K a) H1
theorem pi_enumT {X : Cx} {e : Expr} {ta : TA} {p pos tpos : Pos} {elts : List Expr} {kk : Nat} (hg : Gl X "enumerate") (hm : X.mg "enumerate" = none) (ha : PA X [e] ta) (hs : starEach [e] X.env = [(false, eval e X.env)] := by rfl) :
    PI X (.Tuple elts kk tpos) (.Call (.Name "enumerate" p) [e] [] pos) (iEnumT X.K ta) := by
  refine ⟨fun pins s σ H R I h => ?_⟩
  refine Call_ (ld_blt I hg hm boot_enumerate (PyProof.Rows.callWith_type1 (thn (ha.run pos pins s σ H _ I h) fun us s1 ⟨vs, H1, I1, r1, q1⟩ => ?_) hs rfl))
  obtain ⟨a, xs, ex, hq, q⟩ := q1
  subst ex
  cases r1 with
  | cons r rr =>
    cases rr
    cases r
    obtain ⟨its, rv, p', hz⟩ := I1.tuple hq
    have p2 : s1.heap.IsTuple a its.toArray := p'
    have hal : a < s1.heap.objs.size := by
      obtain ⟨o, ho, _⟩ := id p2
      exact Heap.lt_size ho
    refine enum_begins1 (begins_tuple a its.toArray) p2 fun h' he hit hsz hk => wpAny_pyIter_enum he ?_
    have I2 : Inv X pins σ H1 { s1 with heap := h' } := I1.kept (t' := s1.toks) hk
    refine ⟨s1.heap.objs.size + 1, [s1.heap.objs.size + 1, s1.heap.objs.size], _, _, H1, rfl, I2, turn_enumT a (s1.heap.objs.size + 1) s1.heap.objs.size, ⟨⟨.none, he⟩, ⟨_, hit, rfl, rfl⟩, Nat.succ_ne_self _, Nat.ne_of_lt hal, Nat.ne_of_lt (Nat.lt_succ_of_lt hal)⟩, fun b hb => ?_, q⟩
    have e' : b = s1.heap.objs.size + 1 ∨ b = s1.heap.objs.size := by simpa using hb
    have hle : s1.heap.objs.size ≤ b := by
      rcases e' with z | z
      · rw [z]; exact Nat.le_add_right _ _
      · rw [z]; exact Nat.le_refl _
    exact I1.fpOk hle (I1.hok.fresh hle)
end Cb

end

section
set_option maxRecDepth 100000
set_option maxHeartbeats 4000000
namespace Cb
open PySem PySem.Spec PyProof.Rows L2
theorem PE.imp {X : Cx} {e : Expr} {t t' : TE} (h : PE X e t) (hi : ∀ σ H Q, t' σ H Q → t σ H Q) : PE X e t' := ⟨fun pins s σ H Q I q => h.run pins s σ H Q I (hi σ H Q q)⟩
theorem PT.imp {X : Cx} {e : Expr} {t t' : TT} (h : PT X e t) (hi : ∀ σ H Q, t' σ H Q → t σ H Q) : PT X e t' := ⟨fun pins s σ H Q I q => h.run pins s σ H Q I (hi σ H Q q)⟩
/-- a constant of the module -/
def GlobV (mg : Str → Option Value) (x : Str) (v : V) : Prop := ∃ u, mg x = some u ∧ RelV v u
/-- a written tuple of the module -/
def GlobT (K : PySem.W.Frag) (mg : Str → Option Value) (x : Str) (xs : List V) : Prop := ∃ a, mg x = some (.ref a) ∧ ∀ H, SqT K H a xs
def tGT (K : PySem.W.Frag) (xs : List V) : TE := fun _ H Q => ∀ a, (∀ H', SqT K H' a xs) → Q (.ref a) H
section
variable {X : Cx} {x : Str} {pos p q : Pos}
theorem pe_gv {v : V} (hg : Gl X x) (h : GlobV X.mg x v) (hd : (x == ("__debug__" : Str)) = false := by decide) : PE X (.Name x pos) (tC v) := by
  obtain ⟨u, hm, r⟩ := h
  exact pe_glob hg hm r hd
theorem pe_gt {xs : List V} (hg : Gl X x) (h : GlobT X.K X.mg x xs) (hd : (x == ("__debug__" : Str)) = false := by decide) : PE X (.Name x pos) (tGT X.K xs) := by
  obtain ⟨a, hm, hs⟩ := h
  exact PE.imp (pe_glob (v := .ref a) hg hm rfl hd) fun σ H Q z => z a hs
def tConst (cs : List V) : TA := fun _ H Q => Q cs H
theorem pc_nil : PA X [] (tConst []) := pa_nil
theorem pc_cons {s : Str} {es : List Expr} {cs : List V} {j} (h : PA X es (tConst cs)) (hs : starEach (.Constant (.str s) j p :: es) X.env = (false, eval (.Constant (.str s) j p) X.env) :: starEach es X.env := by rfl) :
    PA X (.Constant (.str s) j p :: es) (tConst (.str s :: cs)) := pa_cons pe_str h hs
def tInC (neg : Bool) (i : Nat) (cs : List V) : TE := fun σ H Q => ∃ x, σ[i]? = some (some x) ∧ flatV x = true ∧ ∀ H2, Same H H2 → Q (.bl (if neg then !inV x cs else inV x cs)) H2
theorem pe_inC {i k : Nat} {es : List Expr} {cs : List V} (hN : X.N[i]? = some x) (hv : Vis X.env.scope x) (hc : PA X es (tConst cs)) (hf : cs.all flatV = true := by rfl) (hl : cs.length ≤ sizeLine := by decide)
    (hd : (x == ("__debug__" : Str)) = false := by decide) (hcd : (x == ("__classdict__" : Str)) = false := by decide) :
    PE X (.Compare (.Name x p) [.In] [.Tuple es k q] pos) (tInC false i cs) :=
  PE.imp (pe_cmpR op_in_seq (pe_var hN hv hd hcd) (pe_tup hc) rfl) fun σ H Q z => by
    obtain ⟨v, e, fv, z⟩ := z
    exact ⟨v, e, hl, fun a ha => ⟨a, cs, rfl, .inr (.inl (.inl upd_same)), fv, hf, z _ (same_upd ha)⟩⟩
theorem pe_notinC {i k : Nat} {es : List Expr} {cs : List V} (hN : X.N[i]? = some x) (hv : Vis X.env.scope x) (hc : PA X es (tConst cs)) (hf : cs.all flatV = true := by rfl) (hl : cs.length ≤ sizeLine := by decide)
    (hd : (x == ("__debug__" : Str)) = false := by decide) (hcd : (x == ("__classdict__" : Str)) = false := by decide) :
    PE X (.Compare (.Name x p) [.NotIn] [.Tuple es k q] pos) (tInC true i cs) :=
  PE.imp (pe_cmpR op_notIn_seq (pe_var hN hv hd hcd) (pe_tup hc) rfl) fun σ H Q z => by
    obtain ⟨v, e, fv, z⟩ := z
    exact ⟨v, e, hl, fun a ha => ⟨a, cs, rfl, .inr (.inl (.inl upd_same)), fv, hf, z _ (same_upd ha)⟩⟩
theorem pt_inC {i k : Nat} {es : List Expr} {cs : List V} (hN : X.N[i]? = some x) (hv : Vis X.env.scope x) (hc : PA X es (tConst cs)) (hf : cs.all flatV = true := by rfl) (hl : cs.length ≤ sizeLine := by decide)
    (hd : (x == ("__debug__" : Str)) = false := by decide) (hcd : (x == ("__classdict__" : Str)) = false := by decide) :
    PT X (.Compare (.Name x p) [.In] [.Tuple es k q] pos) (tTest (tInC false i cs)) :=
  PT.imp (pt_cmpR op_in_seq (pe_var hN hv hd hcd) (pe_tup hc) rfl) fun σ H Q z => by
    obtain ⟨v, e, fv, z⟩ := z
    exact ⟨v, e, hl, fun a ha => ⟨a, cs, rfl, .inr (.inl (.inl upd_same)), fv, hf, z _ (same_upd ha)⟩⟩
theorem pt_notinC {i k : Nat} {es : List Expr} {cs : List V} (hN : X.N[i]? = some x) (hv : Vis X.env.scope x) (hc : PA X es (tConst cs)) (hf : cs.all flatV = true := by rfl) (hl : cs.length ≤ sizeLine := by decide)
    (hd : (x == ("__debug__" : Str)) = false := by decide) (hcd : (x == ("__classdict__" : Str)) = false := by decide) :
    PT X (.Compare (.Name x p) [.NotIn] [.Tuple es k q] pos) (tTest (tInC true i cs)) :=
  PT.imp (pt_cmpR op_notIn_seq (pe_var hN hv hd hcd) (pe_tup hc) rfl) fun σ H Q z => by
    obtain ⟨v, e, fv, z⟩ := z
    exact ⟨v, e, hl, fun a ha => ⟨a, cs, rfl, .inr (.inl (.inl upd_same)), fv, hf, z _ (same_upd ha)⟩⟩
/-- a ** b of written numbers -/
theorem pe_powc (c : Int) {a b : Int} {j k} (h : CPow a b) (e : a ^ b.toNat = c) : PE X (.BinOp (.Constant (.int a) j p) .Pow (.Constant (.int b) k q) pos) (tC (.int c)) :=
  PE.imp (pe_op op_pow pe_int pe_int) fun σ H Q z => by
    subst e
    exact ⟨_, _, rfl, rfl, h, z⟩
/-- -a of a written number -/
theorem pe_negc (c : Int) {a : Int} {j} (e : -a = c) : PE X (.UnaryOp .USub (.Constant (.int a) j p) pos) (tC (.int c)) :=
  PE.imp (pe_un un_neg pe_int) fun σ H Q z => by
    subst e
    exact ⟨_, rfl, z⟩
/-- isinstance(x, T) for x in slot i, T a built-in class -/
def tIsi (K : PySem.W.Frag) (i : Nat) (b : String) : TE := fun σ H Q => ∃ (x : V) (t : Value) (r : Bool), σ[i]? = some (some x) ∧ TyX K H x t ∧ PySem.W.kitOne K t (.type b) = some r ∧ Q (.bl r) H
end
/-! ### answers by equations -/
theorem bl_cast {Q : VK} {H : Hp} {a b : Bool} (e : a = b) (q : Q (.bl b) H) : Q (.bl a) H := e ▸ q
theorem int_cast {Q : VK} {H : Hp} {i j : Int} (e : i = j) (q : Q (.int j) H) : Q (.int i) H := e ▸ q
theorem v_cast {Q : VK} {H : Hp} {i j : V} (e : i = j) (q : Q j H) : Q i H := e ▸ q
theorem iteF' {A B : Prop} {b : Bool} (e : b = false) (h : B) : if b = true then A else B := by
  subst e
  exact iteF h
theorem iteT' {A B : Prop} {b : Bool} (e : b = true) (h : A) : if b = true then A else B := by
  subst e
  exact iteT h
end Cb

end

section
set_option maxRecDepth 100000
set_option maxHeartbeats 4000000
namespace Cb
open PySem PySem.Spec PyProof.Rows L2
/-- a def of the module stands there as the text says -/
def Stands (K : PySem.W.Frag) (mg : Str → Option Value) (x : Str) (st : Stmt) : Prop := ∃ f fd, mg x = some (.ref f) ∧ Fun K x x st f fd
theorem gives_fun {P : Program} {w : World} {K : PySem.W.Frag} {mg : Str → Option Value} {base : Heap} {k : Nat} {x : Str} {st : Stmt} {N ps : List Str} {sp : Sp} (T : Stands K mg x st) (S : FnScope N ps (defScope st))
    (hb : ∀ (kV doc pm : Value) (an : Option Addr) (cdv ct : Value) (us : List Value), us.length = ps.length → bindArgs (PySem.W.fnOf x x (defArgs st) (defBody st) (defScope st) .none kV doc pm an cdv ct) ⟨us, []⟩ = pure (ps.zip us))
    (len : ∀ vs H Q E, sp vs H Q E → vs.length = ps.length)
    (hbody : ∀ (f : Addr) (cdv : Value) (A : Around) (outer : List Env) (s : Shared) (H : Hp) (vs : List V) (Q : VK) (E : XK), Room k (A.deeper (envOfC x (defScope st) s.heap.objs.size f cdv)) → sp vs H Q E →
      ∃ t, PSs (cxOf CX0 P w K mg base N x (defScope st) f cdv A outer s H E).nox (defBody st) t ∧ t { nx := fun _ H' => Q .non H', rt := Q } (start N vs) H) :
    Gives P w K mg base CX0 (k + 1) x sp := by
  obtain ⟨f, fd, hm, F⟩ := T
  exact gives_of hm F.kp (F.ok S len (hbody f)) (F.binds hb)
/-- def x(a, .., *v) -/
theorem gives_star {P : Program} {w : World} {K : PySem.W.Frag} {mg : Str → Option Value} {base : Heap} {k : Nat} {x pv : Str} {st : Stmt} {N ps : List Str} {sp : Sp} (T : Stands K mg x st) (S : FnScope N (ps ++ [pv]) (defScope st))
    (hb : ∀ (kV doc pm : Value) (an : Option Addr) (cdv ct : Value) (us rest : List Value), us.length = ps.length → bindArgs (PySem.W.fnOf x x (defArgs st) (defBody st) (defScope st) .none kV doc pm an cdv ct) ⟨us ++ rest, []⟩ = (newTuple rest >>= fun t => pure (ps.zip us ++ [(pv, t)])))
    (hbody : ∀ (f : Addr) (cdv : Value) (A : Around) (outer : List Env) (s : Shared) (H : Hp) (vs : List V) (Q : VK) (E : XK), Room k (A.deeper (envOfC x (defScope st) s.heap.objs.size f cdv)) → sp vs H Q E →
      ∃ t, PSs (cxOf CX0 P w K mg base N x (defScope st) f cdv A outer s H E).nox (defBody st) t ∧ t { nx := fun _ H' => Q .non H', rt := Q } (start N vs) H) :
    Gives P w K mg base CX0 (k + 1) x (fun vs H Q E => ∃ ws rest, vs = ws ++ rest ∧ ws.length = ps.length ∧ rest.length ≤ sizeLine ∧ ∀ p, H p = Option.none → sp (ws ++ [V.ref p]) (upd H p (.tup rest)) Q E) := by
  obtain ⟨f, fd, hm, F⟩ := T
  obtain ⟨oc, od, kV, doc, pm, an, cdv, ct, osl, rfl, lk, hcd⟩ := F.ex
  refine ⟨f, hm, F.kp, StX.fn_star lk hcd S StX.cxUp_none (hb kV doc pm an cdv ct) fun A outer s H vs Q E hr hsp => ?_⟩
  obtain ⟨t, h, q⟩ := hbody f cdv A outer s H vs Q E hr hsp
  exact ⟨t, h.nox, q⟩
theorem Gives.imp {P : Program} {w : World} {K : PySem.W.Frag} {mg : Str → Option Value} {base : Heap} {CX : CXT} {k : Nat} {x : Str} {sp sp' : Sp} (F : Gives P w K mg base CX k x sp) (h : ∀ vs H Q E, sp' vs H Q E → sp vs H Q E) : Gives P w K mg base CX k x sp' := by
  obtain ⟨f, hm, hk, F⟩ := F
  exact ⟨f, hm, hk, F.imp h⟩
/-! ### the operations -/
inductive Op where
  | add | sub | mul | div | rem | and | or | xor | shl | shr | lt | le | gt | ge | eq | ne | neg | not
  deriving DecidableEq
def Op.name : Op → Str
  | .add => "add" | .sub => "sub" | .mul => "mul" | .div => "div" | .rem => "rem" | .and => "and" | .or => "or" | .xor => "xor" | .shl => "shl" | .shr => "shr"
  | .lt => "lt" | .le => "le" | .gt => "gt" | .ge => "ge" | .eq => "eq" | .ne => "ne" | .neg => "neg" | .not => "not"
def Op.single : Op → Bool
  | .neg => true | .not => true | _ => false
def Wd (i : Int) : Prop := -2147483648 ≤ i ∧ i ≤ 2147483647
instance (i : Int) : Decidable (Wd i) := inferInstanceAs (Decidable (_ ∧ _))
def wrp (i : Int) : Int := (i - (-2147483648)) % 4294967296 + (-2147483648)
def ab (i : Int) : Int := if i < 0 then -i else i
def quo (i j : Int) : Int := if decide (i < 0) = decide (j < 0) then ab i / ab j else -(ab i / ab j)
def b2 (b : Bool) : Int := if b then 1 else 0
def cmpB : Op → Int → Int → Bool
  | .lt, a, b => decide (a < b) | .ge, a, b => !decide (a < b) | .le, a, b => decide (a ≤ b) | .gt, a, b => !decide (a ≤ b) | .eq, a, b => decide (a = b) | .ne, a, b => !decide (a = b)
  | _, _, _ => false
def Op.isCmp : Op → Bool
  | .lt => true | .le => true | .gt => true | .ge => true | .eq => true | .ne => true | _ => false
def Op.isBit : Op → Bool
  | .and => true | .or => true | .xor => true | .shl => true | .shr => true | _ => false
def bitI : Op → Int → Int → Int
  | .and, a, b => Builtin.bitAnd a b | .or, a, b => Builtin.bitOr a b | .xor, a, b => Builtin.bitXor a b
  | .shl, a, b => wrp (a * 2 ^ (b % 32).toNat) | _, a, b => a / 2 ^ (b % 32).toNat
/-- the result of an operation, None where it traps -/
def res : Op → Int → Int → V
  | .add, a, b => .int (wrp (a + b)) | .sub, a, b => .int (wrp (a - b)) | .mul, a, b => .int (wrp (a * b))
  | .div, a, b => if b = 0 then .non else .int (wrp (quo a b)) | .rem, a, b => if b = 0 then .non else .int (wrp (a - b * quo a b))
  | .neg, a, _ => .int (wrp (-a)) | .not, a, _ => .int (wrp (-a - 1))
  | .and, a, b => .int (Builtin.bitAnd a b) | .or, a, b => .int (Builtin.bitOr a b) | .xor, a, b => .int (Builtin.bitXor a b)
  | .shl, a, b => .int (wrp (a * 2 ^ (b % 32).toNat)) | .shr, a, b => .int (a / 2 ^ (b % 32).toNat)
  | o, a, b => .int (b2 (cmpB o a b))
/-! ### their promises -/
def spIsInt : Sp := fun vs H Q _ => ∃ i, vs = [.int i] ∧ Q (.bl true) H
def spIsWord : Sp := fun vs H Q _ => ∃ i, vs = [.int i] ∧ Q (.bl (decide (Wd i))) H
def spWrapped : Sp := fun vs H Q _ => ∃ i, vs = [.int i] ∧ Q (.int (wrp i)) H
def spQuot : Sp := fun vs H Q _ => ∃ i j, vs = [.int i, .int j] ∧ j ≠ 0 ∧ Wd j ∧ Q (.int (quo i j)) H
def spCompared : Sp := fun vs H Q _ => ∃ (o : Op) (a b : Int), vs = [.str o.name, .int a, .int b] ∧ o.isCmp = true ∧ ∀ H', Same H H' → Q (.bl (cmpB o a b)) H'
def spBits : Sp := fun vs H Q _ => ∃ (o : Op) (a b : Int), vs = [.str o.name, .int a, .int b] ∧ o.isBit = true ∧ Wd a ∧ Q (.int (bitI o a b)) H
def spResult : Sp := fun vs H Q _ => ∃ (o : Op) (a b : Int), vs = [.str o.name, .int a, .int b] ∧ Wd a ∧ Wd b ∧ ∀ H', Same H H' → Q (res o a b) H'
def spWrap : Sp := fun vs H Q _ => ∃ i, vs = [.int i] ∧ Q (.int (wrp i)) H
def spOperate : Sp := fun vs H Q _ => (∃ (o : Op) (a b : Int), vs = [.str o.name, .int a, .int b] ∧ o.single = false ∧ Wd a ∧ Wd b ∧ ∀ H', Same H H' → Q (res o a b) H') ∨
  ∃ (o : Op) (a : Int), vs = [.str o.name, .int a] ∧ o.single = true ∧ Wd a ∧ ∀ H', Same H H' → Q (res o a a) H'
def spOperateB : Sp := fun vs H Q _ => ∃ (o : Op) (p : Addr) (xs : List V), vs = [.str o.name, .ref p] ∧ H p = some (.tup xs) ∧ ((o.single = false ∧ ∃ a b : Int, xs = [.int a, .int b] ∧ Wd a ∧ Wd b ∧ ∀ H', Same H H' → Q (res o a b) H') ∨
  (o.single = true ∧ ∃ a : Int, xs = [.int a] ∧ Wd a ∧ ∀ H', Same H H' → Q (res o a a) H'))
theorem res_div {a b : Int} (h : b ≠ 0) : res .div a b = .int (wrp (quo a b)) := if_neg h
theorem res_rem {a b : Int} (h : b ≠ 0) : res .rem a b = .int (wrp (a - b * quo a b)) := if_neg h
theorem quo_wd {a b : Int} (ha : Wd a) : (quo a b).natAbs < 2 ^ 64 := by
  unfold quo
  have h : ab a / ab b ≤ 2147483648 ∧ 0 ≤ ab a / ab b := by
    have h1 : 0 ≤ ab a ∧ ab a ≤ 2147483648 := by
      unfold ab Wd at *
      split <;> omega
    have h2 : 0 ≤ ab b := by
      unfold ab
      split <;> omega
    have h3 := Int.ediv_nonneg h1.1 h2
    have h4 := Int.ediv_le_self (ab b) h1.1
    omega
  split <;> omega
end Cb

end

section
set_option maxHeartbeats 1000000
namespace Cb
open PySem PySem.Spec PyProof.Rows
theorem wrp_wd (i : Int) : Wd (wrp i) := by
  unfold Wd wrp
  omega
theorem wrp_id {i : Int} (h : Wd i) : wrp i = i := by
  unfold Wd at h
  unfold wrp
  omega
theorem wrp_ex (i : Int) : ∃ k : Int, wrp i = i + 4294967296 * k := ⟨-((i + 2147483648) / 4294967296), by unfold wrp; omega⟩
theorem wrp_of {i j : Int} (k : Int) (h : i = j + 4294967296 * k) : wrp i = wrp j := by
  subst h
  unfold wrp
  omega
theorem wrp_mul_r (a y : Int) : wrp (a * wrp y) = wrp (a * y) := by
  obtain ⟨k, e⟩ := wrp_ex y
  rw [e]
  exact wrp_of (a * k) (by rw [Int.mul_add, Int.mul_left_comm])
theorem wrp_mul_l (a y : Int) : wrp (wrp y * a) = wrp (y * a) := by
  rw [Int.mul_comm, wrp_mul_r, Int.mul_comm]
theorem wrp_add_r (a y : Int) : wrp (a + wrp y) = wrp (a + y) := by
  unfold wrp; omega
theorem wrp_add_l (a y : Int) : wrp (wrp y + a) = wrp (y + a) := by
  unfold wrp; omega
theorem wrp_sub_l (a y : Int) : wrp (wrp y - a) = wrp (y - a) := by
  unfold wrp; omega
theorem wrp_neg (y : Int) : wrp (-(wrp y)) = wrp (-y) := by
  unfold wrp; omega
theorem wrp_uniq {i j : Int} (hj : Wd j) (k : Int) (h : i = j + 4294967296 * k) : wrp i = j := by
  rw [wrp_of k h, wrp_id hj]
/-! sums -/
theorem ms5 (a b c : Int) : wrp (wrp (a + b) + c) = wrp (a + wrp (b + c)) := by rw [wrp_add_l, wrp_add_r, Int.add_assoc]
theorem ms6 (a b c : Int) : wrp (wrp (a * b) * c) = wrp (a * wrp (b * c)) := by rw [wrp_mul_l, wrp_mul_r, Int.mul_assoc]
theorem ms7 (a b c : Int) : wrp (a * wrp (b + c)) = wrp (wrp (a * b) + wrp (a * c)) := by rw [wrp_mul_r, wrp_add_l, wrp_add_r, Int.mul_add]
theorem ms8 (a b : Int) : wrp (a - b) = wrp (a + wrp (-b)) := by rw [wrp_add_r, Int.sub_eq_add_neg]
theorem ms10 {a : Int} (b : Int) (h : Wd a) : wrp (wrp (a + b) - b) = a := by
  rw [wrp_sub_l, show a + b - b = a by omega, wrp_id h]
theorem ms11 {a : Int} (h : Wd a) : wrp (-(wrp (-a))) = a := by
  rw [wrp_neg, Int.neg_neg, wrp_id h]
theorem ms12 (a : Int) : wrp (a + wrp (-a)) = 0 := by
  rw [wrp_add_r, show a + -a = 0 by omega]
  decide
theorem ms13 (a : Int) : wrp (a * -1) = wrp (-a) := by rw [Int.mul_neg, Int.mul_one]
theorem ms14 (a : Int) : wrp (-a) = wrp (0 - a) := by rw [Int.zero_sub]
/-! bits -/
abbrev band := Builtin.bitAnd
theorem tb_diff (i : Nat) : ∀ n k : Nat, (n - (n &&& k)).testBit i = (n.testBit i && !k.testBit i) := by
  induction i with
  | zero =>
    intro n k
    have h1 : (n &&& k) % 2 = (if n % 2 = 1 ∧ k % 2 = 1 then 1 else 0) := by
      have := Nat.testBit_and n k 0
      simp only [Nat.testBit_zero] at this
      rcases Nat.mod_two_eq_zero_or_one n with a | a <;> rcases Nat.mod_two_eq_zero_or_one k with b | b <;> rcases Nat.mod_two_eq_zero_or_one (n &&& k) with c | c <;> simp_all
    have h2 : (n &&& k) ≤ n := Nat.and_le_left
    simp only [Nat.testBit_zero]
    have h3 : (n - (n &&& k)) % 2 = 1 ↔ (n % 2 = 1 ∧ ¬ k % 2 = 1) := by
      split at h1 <;> omega
    by_cases c : (n - (n &&& k)) % 2 = 1
    · have := h3.mp c
      simp [c, this.1, this.2]
    · have d : ¬ (n % 2 = 1 ∧ ¬ k % 2 = 1) := fun z => c (h3.mpr z)
      by_cases e : n % 2 = 1
      · have f : k % 2 = 1 := Classical.byContradiction fun z => d ⟨e, z⟩
        simp [c, e, f]
      · simp [c, e]
  | succ i ih =>
    intro n k
    rw [Nat.testBit_succ, Nat.testBit_succ, Nat.testBit_succ, ← ih (n / 2) (k / 2)]
    congr 1
    have h0 : (n &&& k) / 2 = (n / 2) &&& (k / 2) := by
      rw [Nat.and_div_two]
    have h1 : (n &&& k) % 2 = (if n % 2 = 1 ∧ k % 2 = 1 then 1 else 0) := by
      have := Nat.testBit_and n k 0
      simp only [Nat.testBit_zero] at this
      rcases Nat.mod_two_eq_zero_or_one n with a | a <;> rcases Nat.mod_two_eq_zero_or_one k with b | b <;> rcases Nat.mod_two_eq_zero_or_one (n &&& k) with c | c <;> simp_all
    have h2 : (n &&& k) ≤ n := Nat.and_le_left
    rw [← h0]
    split at h1 <;> omega
/-- an int is a number or the not of one -/
theorem int_two (x : Int) : (∃ m : Nat, x = (m : Int)) ∨ ∃ m : Nat, x = -(m : Int) - 1 := by
  by_cases h : 0 ≤ x
  · exact .inl ⟨x.toNat, by omega⟩
  · exact .inr ⟨(-x - 1).toNat, by omega⟩
theorem band_pp (m n : Nat) : band m n = ((m &&& n : Nat) : Int) := by
  rw [band, bitAnd_pp (by omega) (by omega)]
  simp
theorem band_pn (m n : Nat) : band m (-(n : Int) - 1) = ((m - (m &&& n) : Nat) : Int) := by
  rw [band, bitAnd_pn (by omega) (by omega)]
  have h : (Builtin.bitNot (-(n : Int) - 1)).toNat = n := by
    unfold Builtin.bitNot
    omega
  rw [h]
  have : (m &&& n) ≤ m := Nat.and_le_left
  simp only [Int.toNat_natCast]
  omega
theorem band_np (m n : Nat) : band (-(m : Int) - 1) n = ((n - (n &&& m) : Nat) : Int) := by
  rw [band, bitAnd_comm]
  exact band_pn n m
theorem band_nn (m n : Nat) : band (-(m : Int) - 1) (-(n : Int) - 1) = -((m ||| n : Nat) : Int) - 1 := by
  rw [band, bitAnd_nn (by omega) (by omega)]
  have h : ∀ k : Nat, (Builtin.bitNot (-(k : Int) - 1)).toNat = k := fun k => by
    unfold Builtin.bitNot
    omega
  rw [h, h]
  rfl
theorem band_assoc (x y z : Int) : band (band x y) z = band x (band y z) := by
  rcases int_two x with ⟨m, rfl⟩ | ⟨m, rfl⟩ <;> rcases int_two y with ⟨n, rfl⟩ | ⟨n, rfl⟩ <;> rcases int_two z with ⟨k, rfl⟩ | ⟨k, rfl⟩ <;>
    simp only [band_pp, band_pn, band_np, band_nn] <;> (first | (congr 1; apply Nat.eq_of_testBit_eq) | (congr 1; congr 1; apply Nat.eq_of_testBit_eq) | (congr 1; congr 1; congr 1; apply Nat.eq_of_testBit_eq)) <;> intro i <;> simp only [Nat.testBit_and, Nat.testBit_or, tb_diff] <;>
    cases m.testBit i <;> cases n.testBit i <;> cases k.testBit i <;> rfl
theorem band_wd {a b : Int} (ha : Wd a) (hb : Wd b) : Wd (band a b) := by
  unfold Wd at *
  rcases int_two a with ⟨m, rfl⟩ | ⟨m, rfl⟩ <;> rcases int_two b with ⟨n, rfl⟩ | ⟨n, rfl⟩
  · rw [band_pp]
    have : (m &&& n) ≤ m := Nat.and_le_left
    omega
  · rw [band_pn]
    omega
  · rw [band_np]
    omega
  · rw [band_nn]
    have h : (m ||| n) < 2 ^ 31 := Nat.or_lt_two_pow (by omega) (by omega)
    omega
theorem bor_eq (a b : Int) : Builtin.bitOr a b = a + b - band a b := bitOr_and a b
theorem bxor_eq (a b : Int) : Builtin.bitXor a b = a + b - 2 * band a b := bitXor_and a b
theorem band_not (a b : Int) : band a (-b - 1) = a - band a b := bitAnd_not a b
theorem band_cm (a b : Int) : band a b = band b a := bitAnd_comm a b
theorem band_self (a : Int) : band a a = a := bitAnd_self a
theorem not_wd {a : Int} (ha : Wd a) : Wd (-a - 1) := by
  unfold Wd at *
  omega
theorem bor_wd {a b : Int} (ha : Wd a) (hb : Wd b) : Wd (Builtin.bitOr a b) := by
  have h := band_wd (not_wd ha) (not_wd hb)
  have e : Builtin.bitOr a b = -(band (-a - 1) (-b - 1)) - 1 := rfl
  rw [e]
  exact not_wd h
theorem bor_band (a b : Int) : Builtin.bitOr a b = -(band (-a - 1) (-b - 1)) - 1 := rfl
theorem band_abs (a b : Int) : band a (band a b) = band a b := by rw [← band_assoc, band_self]
theorem band_or (a b : Int) : band a (Builtin.bitOr a b) = a := by
  rw [bor_band, band_not, ← band_assoc, band_not a a, band_self, Int.sub_self]
  have h : ∀ x : Int, band 0 x = 0 := fun x => by
    rw [band_cm]
    exact bitAnd_zero x
  rw [h]
  omega
theorem bxor_band (a b : Int) : Builtin.bitXor a b = band (Builtin.bitOr a b) (-(band a b) - 1) := by
  rw [band_not, show band (Builtin.bitOr a b) (band a b) = band a b by rw [← band_assoc, band_cm (Builtin.bitOr a b) a, band_or]]
  rfl
theorem bxor_wd {a b : Int} (ha : Wd a) (hb : Wd b) : Wd (Builtin.bitXor a b) := by
  rw [bxor_band]
  exact band_wd (bor_wd ha hb) (not_wd (band_wd ha hb))
theorem band_xor (a b : Int) : band a (Builtin.bitXor a b) = a - band a b := by
  rw [bxor_band, ← band_assoc, band_or, band_not, band_abs]
theorem bor_cm (a b : Int) : Builtin.bitOr a b = Builtin.bitOr b a := bitOr_comm a b
theorem bxor_cm (a b : Int) : Builtin.bitXor a b = Builtin.bitXor b a := by rw [bxor_eq, bxor_eq, band_cm, Int.add_comm]
theorem bxor_xor (a b : Int) : Builtin.bitXor (Builtin.bitXor a b) b = a := by
  rw [bxor_eq (Builtin.bitXor a b) b, band_cm, bxor_cm a b, band_xor, bxor_eq]
  have := band_cm a b
  omega
theorem mb1 {a b : Int} (ha : Wd a) (hb : Wd b) : Builtin.bitXor a b = wrp (Builtin.bitOr a b - Builtin.bitAnd a b) := (wrp_id (bxor_wd ha hb)).symm
theorem mb2 (a b : Int) : wrp (Builtin.bitAnd a b + Builtin.bitOr a b) = wrp (a + b) := by
  rw [bor_eq]
  congr 1
  show band a b + (a + b - band a b) = a + b
  omega
theorem wnot {a : Int} (ha : Wd a) : wrp (-a - 1) = -a - 1 := wrp_id (not_wd ha)
theorem mb3 {a b : Int} (ha : Wd a) (hb : Wd b) : wrp (-(Builtin.bitAnd a b) - 1) = Builtin.bitOr (wrp (-a - 1)) (wrp (-b - 1)) := by
  rw [wnot ha, wnot hb, wnot (band_wd ha hb), bor_band]
  rw [show -(-a - 1) - 1 = a by omega, show -(-b - 1) - 1 = b by omega]
theorem mb4 (a : Int) : wrp (-a - 1) = wrp (-1 - a) := by
  rw [show -a - 1 = -1 - a by omega]
theorem mb6 {a : Int} (ha : Wd a) : wrp (-(wrp (-a - 1)) - 1) = a := by
  rw [wnot ha, wnot (not_wd ha)]
  omega
theorem mb8 (a b : Int) : Builtin.bitOr a (Builtin.bitAnd a b) = a := by
  rw [bor_eq, show band a (Builtin.bitAnd a b) = band a b from band_abs a b]
  show a + band a b - band a b = a
  omega
theorem mb9 (a : Int) : Builtin.bitXor a a = 0 := by
  rw [bxor_eq, band_self]
  omega
theorem mb10 {a b : Int} (hb : Wd b) : Builtin.bitAnd a (Builtin.bitXor a b) = Builtin.bitAnd a (wrp (-b - 1)) := by
  rw [wnot hb]
  show band a (Builtin.bitXor a b) = band a (-b - 1)
  rw [band_xor, band_not]
end Cb

end

section
set_option maxHeartbeats 1000000
namespace Cb
open PySem PySem.Spec PyProof.Rows
theorem by31 (b : Int) : Builtin.bitAnd b 31 = b % 32 := bitAnd_m5 b
theorem wd_mod (b : Int) : Wd (b % 32) := by
  unfold Wd
  omega
theorem mod_mod (b : Int) : b % 32 % 32 = b % 32 := by omega
theorem p2 (s : Nat) : (0 : Int) < 2 ^ s := Int.pow_pos (by decide)
theorem shl_mul (a b : Int) : wrp (a * 2 ^ (b % 32).toNat) = wrp (a * wrp (1 * 2 ^ (b % 32).toNat)) := by rw [wrp_mul_r, Int.one_mul]
theorem fl_not (a d : Int) (h : 0 < d) : (-a - 1) / d = -(a / d) - 1 := by
  have h1 := Int.mul_ediv_add_emod a d
  have h2 := Int.emod_nonneg a (Int.ne_of_gt h)
  have h3 := Int.emod_lt_of_pos a h
  have e : -a - 1 = (d - 1 - a % d) + (-(a / d) - 1) * d := by
    rw [Int.sub_mul, Int.neg_mul, Int.mul_comm (a / d) d]
    omega
  rw [e, Int.add_mul_ediv_right _ _ (Int.ne_of_gt h), Int.ediv_eq_zero_of_lt (by omega) (by omega)]
  omega
theorem shr_wd {a : Int} (ha : Wd a) (s : Nat) : Wd (a / 2 ^ s) := by
  have h := p2 s
  unfold Wd at *
  by_cases c : 0 ≤ a
  · have h1 := Int.ediv_nonneg c (Int.le_of_lt h)
    have h2 := Int.ediv_le_self (2 ^ s) c
    omega
  · have h0 : a = -(-a - 1) - 1 := by omega
    have h1 := Int.ediv_nonneg (show 0 ≤ -a - 1 by omega) (Int.le_of_lt h)
    have h2 := Int.ediv_le_self (2 ^ s) (show 0 ≤ -a - 1 by omega)
    rw [h0, fl_not _ _ h]
    omega
theorem shr_not {a : Int} (ha : Wd a) (b : Int) : wrp (-a - 1) / 2 ^ (b % 32).toNat = wrp (-(a / 2 ^ (b % 32).toNat) - 1) := by
  rw [wnot ha, wnot (shr_wd ha _), fl_not _ _ (p2 _)]
theorem shr_back {a : Int} (ha : Wd a) (s : Nat) (hs : s ≤ 31) : wrp (a / 2 ^ s * 2 ^ s) / 2 ^ s = a / 2 ^ s := by
  have h := p2 s
  have w : Wd (a / 2 ^ s * 2 ^ s) := by
    have h1 := Int.mul_ediv_add_emod a (2 ^ s)
    have h2 := Int.emod_nonneg a (Int.ne_of_gt h)
    have h3 := Int.emod_lt_of_pos a h
    rw [Int.mul_comm] at h1
    have h4 : (-2147483648 : Int) / 2 ^ s * 2 ^ s = -2147483648 := Int.ediv_mul_cancel (by
      have : (2147483648 : Int) = 2 ^ s * 2 ^ (31 - s) := by
        rw [← Int.pow_add, show s + (31 - s) = 31 by omega]
        decide
      exact ⟨-2 ^ (31 - s), by rw [Int.mul_neg, ← this]⟩)
    have h5 : (-2147483648 : Int) / 2 ^ s ≤ a / 2 ^ s := Int.ediv_le_ediv h ha.1
    have h6 := Int.mul_le_mul_of_nonneg_right h5 (Int.le_of_lt h)
    rw [h4] at h6
    unfold Wd at *
    omega
  rw [wrp_id w, Int.mul_ediv_cancel _ (Int.ne_of_gt h)]
/-! quotients -/
theorem ab_nn (i : Int) : 0 ≤ ab i := by
  unfold ab
  split <;> omega
theorem ab_pos {i : Int} (h : i ≠ 0) : 0 < ab i := by
  unfold ab
  split <;> omega
theorem quo_rest (a b : Int) (hb : b ≠ 0) : ∃ q r : Int, quo a b = q ∧ a - b * q = r ∧ ab r < ab b ∧ (r ≠ 0 → (r < 0 ↔ a < 0)) ∧ ab q ≤ ab a ∧ (q < 0 → decide (a < 0) ≠ decide (b < 0)) := by
  have h1 := Int.mul_ediv_add_emod (ab a) (ab b)
  have h2 := Int.emod_nonneg (ab a) (Int.ne_of_gt (ab_pos hb))
  have h3 := Int.emod_lt_of_pos (ab a) (ab_pos hb)
  have h4 := Int.ediv_nonneg (ab_nn a) (ab_nn b)
  have h5 := Int.ediv_le_self (ab b) (ab_nn a)
  refine ⟨_, _, rfl, rfl, ?_⟩
  by_cases ca : a < 0 <;> by_cases cb : b < 0
  · have ea : ab a = -a := if_pos ca
    have eb : ab b = -b := if_pos cb
    have eq : quo a b = ab a / ab b := by
      unfold quo
      rw [if_pos (by simp [ca, cb])]
    rw [eq]
    generalize ab a / ab b = q at *
    generalize ab a % ab b = r at *
    rw [ea, eb] at h1
    rw [eb] at h3
    rw [ea] at h5
    have e : a - b * q = -r := by
      rw [Int.neg_mul] at h1
      omega
    rw [e, eb, ea]
    exact ⟨by unfold ab; split <;> omega, by intro _; omega, by unfold ab; split <;> omega, by intro h; exfalso; omega⟩
  · have ea : ab a = -a := if_pos ca
    have eb : ab b = b := if_neg cb
    have eq : quo a b = -(ab a / ab b) := by
      unfold quo
      rw [if_neg (by simp [ca, cb])]
    rw [eq]
    generalize ab a / ab b = q at *
    generalize ab a % ab b = r at *
    rw [ea, eb] at h1
    rw [eb] at h3
    rw [ea] at h5
    have e : a - b * -q = -r := by
      rw [Int.mul_neg]
      omega
    rw [e, eb, ea]
    exact ⟨by unfold ab; split <;> omega, by intro _; omega, by unfold ab; split <;> omega, by intro _; simp [ca, cb]⟩
  · have ea : ab a = a := if_neg ca
    have eb : ab b = -b := if_pos cb
    have eq : quo a b = -(ab a / ab b) := by
      unfold quo
      rw [if_neg (by simp [ca, cb])]
    rw [eq]
    generalize ab a / ab b = q at *
    generalize ab a % ab b = r at *
    rw [ea, eb] at h1
    rw [eb] at h3
    rw [ea] at h5
    have e : a - b * -q = r := by
      rw [Int.mul_neg]
      rw [Int.neg_mul] at h1
      omega
    rw [e, eb, ea]
    exact ⟨by unfold ab; split <;> omega, by intro _; omega, by unfold ab; split <;> omega, by intro _; simp [ca, cb]⟩
  · have ea : ab a = a := if_neg ca
    have eb : ab b = b := if_neg cb
    have eq : quo a b = ab a / ab b := by
      unfold quo
      rw [if_pos (by simp [ca, cb])]
    rw [eq]
    generalize ab a / ab b = q at *
    generalize ab a % ab b = r at *
    rw [ea, eb] at h1
    rw [eb] at h3
    rw [ea] at h5
    have e : a - b * q = r := by
      omega
    rw [e, eb, ea]
    exact ⟨by unfold ab; split <;> omega, by intro _; omega, by unfold ab; split <;> omega, by intro h; exfalso; omega⟩
theorem rest_wd {a b : Int} (hb : b ≠ 0) (wb : Wd b) : Wd (a - b * quo a b) := by
  obtain ⟨q, r, e1, e2, h, _⟩ := quo_rest a b hb
  rw [e1, e2]
  unfold ab Wd at *
  split at h <;> split at h <;> omega
theorem mp1 {a b : Int} (wa : Wd a) (hb : b ≠ 0) (wb : Wd b) : wrp (wrp (wrp (quo a b) * b) + wrp (a - b * quo a b)) = a := by
  rw [wrp_mul_l, wrp_add_l, wrp_add_r, Int.mul_comm]
  rw [show b * quo a b + (a - b * quo a b) = a by omega, wrp_id wa]
theorem mp2 {a b : Int} (hb : b ≠ 0) (wb : Wd b) : ¬ (ab (wrp (a - b * quo a b)) ≥ ab b) := by
  rw [wrp_id (rest_wd hb wb)]
  obtain ⟨q, r, e1, e2, h, _⟩ := quo_rest a b hb
  rw [e1, e2]
  omega
theorem mp3 {a b : Int} (hb : b ≠ 0) (wb : Wd b) (h : wrp (a - b * quo a b) ≠ 0) : decide (wrp (a - b * quo a b) < 0) = decide (a < 0) := by
  rw [wrp_id (rest_wd hb wb)] at h ⊢
  obtain ⟨q, r, e1, e2, _, h2, _⟩ := quo_rest a b hb
  rw [e1, e2] at h ⊢
  exact decide_eq_decide.mpr (h2 h)
theorem quo_neg (a b : Int) (hb : b ≠ 0) : quo a (-b) = -(quo a b) := by
  unfold quo
  have e : ab (-b) = ab b := by
    unfold ab
    split <;> split <;> omega
  rw [e]
  by_cases ca : a < 0 <;> by_cases cb : b < 0
  all_goals
    have cn : decide (-b < 0) = !decide (b < 0) := by
      by_cases c : b < 0
      · rw [decide_eq_true c, decide_eq_false (by omega)]
        rfl
      · rw [decide_eq_false c, decide_eq_true (by omega)]
        rfl
    rw [cn]
    simp [ca, cb]
theorem neg_wd {b : Int} (wb : Wd b) (h : b ≠ -2147483648) : wrp (-b) = -b := wrp_id (by unfold Wd at *; omega)
theorem mp4 {a b : Int} (hb : b ≠ 0) (wb : Wd b) (h : b ≠ -2147483648) : wrp (a - wrp (-b) * quo a (wrp (-b))) = wrp (a - b * quo a b) := by
  rw [neg_wd wb h, quo_neg a b hb, Int.neg_mul_neg]
theorem mp5 {a b : Int} (hb : b ≠ 0) (wb : Wd b) (h : b ≠ -2147483648) : wrp (quo a (wrp (-b))) = wrp (-(wrp (quo a b))) := by
  rw [neg_wd wb h, quo_neg a b hb, wrp_neg]
theorem wneg_ne {b : Int} (hb : b ≠ 0) (wb : Wd b) : wrp (-b) ≠ 0 := by
  unfold wrp Wd at *
  omega
theorem quo1 (a : Int) : quo a 1 = a := by
  have e : ab 1 = 1 := by decide
  unfold quo
  rw [e, Int.ediv_one]
  unfold ab
  by_cases c : a < 0
  · simp [c]
  · simp [c]
theorem mp6 {a : Int} (wa : Wd a) : wrp (quo a 1) = a := by rw [quo1, wrp_id wa]
theorem mp7 (a : Int) : wrp (a - 1 * quo a 1) = 0 := by
  rw [quo1, Int.one_mul, Int.sub_self]
  decide
theorem mp8 (a : Int) : wrp (quo a (-1)) = wrp (-a) := by rw [quo_neg a 1 (by decide), quo1]
/-! comparisons -/
theorem b2_wd (c : Bool) : Wd (b2 c) := by
  cases c <;> decide
theorem mo_or (c d : Bool) : Builtin.bitOr (b2 c) (b2 d) = b2 (c || d) := by
  cases c <;> cases d <;> decide
theorem mo_and (c d : Bool) : Builtin.bitAnd (b2 c) (b2 d) = b2 (c && d) := by
  cases c <;> cases d <;> decide
theorem mo_xor1 (c : Bool) : Builtin.bitXor (b2 c) 1 = b2 (!c) := by
  cases c <;> decide
theorem mo1 (a b : Int) : b2 (decide (a ≤ b)) = Builtin.bitOr (b2 (decide (a < b))) (b2 (decide (a = b))) := by
  rw [mo_or]
  congr 1
  rw [Bool.eq_iff_iff]
  simp
  omega
theorem mo2 (a b : Int) : b2 (!decide (a ≤ b)) = Builtin.bitXor (Builtin.bitOr (b2 (decide (a < b))) (b2 (decide (a = b)))) 1 := by
  rw [← mo1, mo_xor1]
theorem mo5 (a b : Int) : b2 (decide (b < a)) = b2 (!decide (a ≤ b)) := by
  congr 1
  rw [Bool.eq_iff_iff]
  simp
theorem mo6 (a b : Int) : Builtin.bitAnd (b2 (decide (a < b))) (b2 (decide (a = b))) = 0 := by
  rw [mo_and]
  have : (decide (a < b) && decide (a = b)) = false := by
    rw [Bool.eq_false_iff]
    simp
    omega
  rw [this]
  rfl
theorem mo9 (a b c : Int) : Builtin.bitAnd (Builtin.bitAnd (b2 (decide (a < b))) (b2 (decide (b < c)))) (b2 (!decide (a < c))) = 0 := by
  rw [mo_and, mo_and]
  have : ((decide (a < b) && decide (b < c)) && !decide (a < c)) = false := by
    rw [Bool.eq_false_iff]
    simp
    omega
  rw [this]
  rfl
end Cb

end

section
set_option maxRecDepth 100000
set_option maxHeartbeats 4000000
namespace Cb
open PySem PySem.Spec PyProof.Rows L2
def Bt (i : Int) : Prop := Builtin.Int.intBits i ≤ 1048576
/-- a pool stands at p -/
def PoolAt (H : Hp) (p : Addr) : Prop := ∃ s d n : Int, H p = some (.lst [.int s, .int d, .int n]) ∧ 0 ≤ s ∧ s < 2147483269 ∧ 0 ≤ d
def spCell (K : PySem.W.Frag) : Sp := fun vs H Q _ => ∃ (a : Addr) (ns : List Int) (k : Int), vs = [.ref a, .int k] ∧ SqL K H a (ns.map V.int) ∧ ns.length ≤ 63 ∧ 0 ≤ k ∧ k ≤ 1000 ∧ ∀ H' r, Same H H' → Q (.int r) H'
def spPool : Sp := fun vs H Q _ => ∃ i, vs = [.int i] ∧ ∀ H' p, Same H H' → H p = none → PoolAt H' p → Q (.ref p) H'
def spDraw : Sp := fun vs H Q _ => ∃ (p : Addr) (m : Int), vs = [.ref p, .int m] ∧ PoolAt H p ∧ 0 < m ∧ m < 2 ^ 200 ∧ ∀ H' r, SameBut p H H' → PoolAt H' p → 0 ≤ r → r < m → Q (.int r) H'
def spFigure : Sp := fun vs H Q _ => ∃ p, vs = [.ref p] ∧ PoolAt H p ∧ ∀ H' r, SameBut p H H' → PoolAt H' p → Wd r → Q (.int r) H'
/-- a def that answers True, whatever its pool draws -/
def spRight : Sp := fun vs H Q _ => ∃ p, vs = [.ref p] ∧ PoolAt H p ∧ ∀ H', SameBut p H H' → PoolAt H' p → Q (.bl true) H'
def spLaw (K : PySem.W.Frag) : Sp := fun vs H Q _ => ∃ (a : Addr) (ns : List Int), vs = [.ref a] ∧ SqL K H a (ns.map V.int) ∧ ns.length ≤ 63 ∧ (∀ z ∈ ns, Builtin.Int.intBits z ≤ 1048576) ∧ ∀ H', Q (.bl true) H'
theorem divp_small {i j : Int} (h : 0 < j) (h2 : j < 2 ^ 200) : CDivP i j := by
  refine ⟨h, ?_⟩
  unfold Builtin.divisionGoesByPylong
  have h3 : j.natAbs.log2 < 200 := by
    have h4 : j.natAbs < 2 ^ 200 := by omega
    exact (Nat.log2_lt (by omega)).mpr h4
  have h5 : (j == 0) = false := by
    simp
    omega
  have h6 : ¬ (j.natAbs.log2 / 30 + 1 > 300) := by omega
  simp [h5]
  intro h7
  omega
theorem PoolAt.sq {K : PySem.W.Frag} {H : Hp} {p : Addr} (h : PoolAt H p) : ∃ xs, SqL K H p xs := by
  obtain ⟨s, d, n, e, _⟩ := h
  exact ⟨_, .inl (.inl e)⟩
theorem PoolAt.same {H H' : Hp} {p : Addr} (h : PoolAt H p) (s : Same H H') : PoolAt H' p := by
  obtain ⟨x, d, n, e, r⟩ := h
  exact ⟨x, d, n, s _ _ e, r⟩
theorem PoolAt.ne {H : Hp} {p q : Addr} (h : PoolAt H p) (e : H q = none) : p ≠ q := by
  obtain ⟨x, d, n, e2, r⟩ := h
  exact ne_of_none e2 e
theorem SameBut.at {a b : Addr} {H H' : Hp} {o : HO} (s : SameBut a H H') (h : H b = some o) (n : b ≠ a) : H' b = some o := s b o n h
/-- an item of a written list of ints at a drawn place -/
theorem at_ints {P : Int → Prop} (ns : List Int) (h : ∀ x ∈ ns, P x) {r : Int} (h0 : 0 ≤ r) (h1 : r < (ns.length : Int)) : ∃ v, atI (ns.map V.int) r = some (.int v) ∧ P v := by
  have hk : r.toNat < ns.length := by omega
  have er : r = ((r.toNat : Nat) : Int) := by omega
  have q : atI (ns.map V.int) ((r.toNat : Nat) : Int) = some (.int ns[r.toNat]) := atI_nat (by rw [List.getElem?_map, List.getElem?_eq_getElem hk] <;> rfl)
  rw [← er] at q
  exact ⟨_, q, h _ (List.getElem_mem hk)⟩
theorem ne_false {x y : V} (h : x = y) : (!decide (x = y)) = false := by
  rw [decide_eq_true h]
  rfl
theorem eq_true {x y : V} (h : x = y) : decide (x = y) = true := decide_eq_true h
theorem ne_falseI {x y : Int} (h : x = y) : (!decide (V.int x = V.int y)) = false := ne_false (congrArg V.int h)
theorem eq_trueI {x y : Int} (h : x = y) : decide (V.int x = V.int y) = true := decide_eq_true (congrArg V.int h)
end Cb

end

section
set_option maxRecDepth 100000
set_option maxHeartbeats 4000000
namespace Cb
open PySem PySem.Spec PyProof.Rows L2
section
variable {K : PySem.W.Frag} {h : Heap} {mg : Str → Option Value} {x : Str}
theorem stands_mk {st : Stmt} {f : Addr} {od an : Option Addr} {sl : Array (Option Value)} {oc kV dc pm cd ct : Value} (X : K.In h) (G : h.Ns mainGlobals mg) (a : PySem.W.nsIn K mainGlobals x = some (some (.ref f)))
    (l : K.lookup f = some ⟨oc, od, .func (PySem.W.fnOf x x (defArgs st) (defBody st) (defScope st) .none kV dc pm an cd ct), sl⟩) (c : PySem.W.codeIn K cd x = true) (k : PySem.W.keepIn K (.ref f) = true) : Stands K mg x st :=
  ⟨f, _, PySem.W.mg_of X G a, fun_mk (st := st) l c k⟩
theorem globi_mk {i : Int} {t : Tok} (X : K.In h) (G : h.Ns mainGlobals mg) (a : PySem.W.nsIn K mainGlobals x = some (some (.int i t))) : GlobV mg x (.int i) := ⟨_, PySem.W.mg_of X G a, ⟨t, rfl⟩⟩
theorem globs_mk {s : Str} {t : Tok} (X : K.In h) (G : h.Ns mainGlobals mg) (a : PySem.W.nsIn K mainGlobals x = some (some (.str s t))) : GlobV mg x (.str s) := ⟨_, PySem.W.mg_of X G a, ⟨t, rfl⟩⟩
theorem globt_mk {p : Addr} {od : Option Addr} {its : Array Value} {n : Nat} {sl : Array (Option Value)} {xs : List V} (X : K.In h) (G : h.Ns mainGlobals mg) (a : PySem.W.nsIn K mainGlobals x = some (some (.ref p)))
    (l : K.lookup p = some ⟨.type "tuple", od, .seq its n, sl⟩) (v : Vals xs its.toList) (z : xs.length ≤ sizeLine) : GlobT K mg x xs :=
  ⟨p, PySem.W.mg_of X G a, fun H => .inr ⟨_, its, n, l, rfl, rfl, by
    have e := v.length
    have e2 : its.toList.length = its.size := Array.length_toList
    rw [e2] at e
    rw [← e]
    exact z, v⟩⟩
end
theorem Fun.bindsAll {K : PySem.W.Frag} {x qual p : Str} {st : Stmt} {f : Addr} {fd : FuncData} (F : Fun K x qual st f fd)
    (h : ∀ (kV doc pm : Value) (an : Option Addr) (cdv ct : Value) (v : Value), bindArgs (PySem.W.fnOf x qual (defArgs st) (defBody st) (defScope st) .none kV doc pm an cdv ct) ⟨[v], []⟩ = pure [(p, v)]) (s : Shared) (v : Value) : BindsTo s fd ⟨[v], []⟩ [(p, v)] := by
  obtain ⟨oc, od, kV, doc, pm, an, cdv, ct, osl, rfl, lk, hcd⟩ := F.ex
  exact .of_eq (h kV doc pm an cdv ct v)
end Cb

end

section
set_option maxRecDepth 100000
set_option maxHeartbeats 4000000
namespace Cb
open PySem PySem.Spec PyProof.Rows L2
/-- a positional promise, kept where no repr is under way -/
def FnG (P : Program) (w : World) (K : PySem.W.Frag) (mg : Str → Option Value) (base : Heap) (CX : CXT) (k : Nat) (f : Addr) (sp : Sp) : Prop :=
  ∀ (A : Around) (outer : List Env) (s : Shared) (H : Hp) (us : List Value) (vs : List V) (Q : VK) (E : XK), A.guards = some [] → Room k A → Env0 P w K mg base A outer s H → Vals vs us → sp vs H Q E →
    codeAny (model P w) A (.call (.ref f) ⟨us, []⟩) (CR CX outer P w H s Q E) s
def GivesG (P : Program) (w : World) (K : PySem.W.Frag) (mg : Str → Option Value) (base : Heap) (CX : CXT) (k : Nat) (x : Str) (sp : Sp) : Prop :=
  ∃ f, mg x = some (.ref f) ∧ PySem.W.keepIn K (.ref f) = true ∧ FnG P w K mg base CX k f sp
theorem Gives.g {P : Program} {w : World} {K : PySem.W.Frag} {mg : Str → Option Value} {base : Heap} {CX : CXT} {k : Nat} {x : Str} {sp : Sp} (F : Gives P w K mg base CX k x sp) : GivesG P w K mg base CX k x sp := by
  obtain ⟨f, hm, hk, F⟩ := F
  exact ⟨f, hm, hk, fun A outer s H us vs Q E _ hr e0 r h => F A outer s H us vs Q E hr e0 r h⟩
theorem GivesG.imp {P : Program} {w : World} {K : PySem.W.Frag} {mg : Str → Option Value} {base : Heap} {CX : CXT} {k : Nat} {x : Str} {sp sp' : Sp} (F : GivesG P w K mg base CX k x sp) (h : ∀ vs H Q E, sp' vs H Q E → sp vs H Q E) : GivesG P w K mg base CX k x sp' := by
  obtain ⟨f, hm, hk, F⟩ := F
  exact ⟨f, hm, hk, fun A outer s H us vs Q E hg hr e0 r z => F A outer s H us vs Q E hg hr e0 r (h _ _ _ _ z)⟩
section
variable {X : Cx} {CX : CXT} {k : Nat} {sp : Sp} {E : XK} {x : Str} {e : Expr} {es : List Expr} {t : TA} {p pos : Pos}
theorem run_fnG {pins : List (Addr × Obj)} {σ : L2.St} {H : Hp} {s : Shared} {f : Addr} {Q : VK} {us : List Value} {vs : List V} (F : FnG X.prog X.w X.K X.mg X.base CX k f sp) (hg : X.A.guards = some []) (hr : Room k X.A) (hx : Passes CX X E) (I : L2.Inv X pins σ H s) (r : Vals vs us) (h : sp vs H Q E) :
    codeAny (model X.prog X.w) X.A (.call (.ref f) ⟨us, []⟩) (fun r s' => match r with | .ok (.ret v) => EP X pins σ Q v s' | .ok _ => False | .error e => X.xe e s') s := by
  refine codeAny_mono (F X.A X.stack s H us vs Q E hg hr I.env0 r h) fun y s' hq => ?_
  match y, hq with
  | .error e, hq => exact hx pins σ H s e s' I hq
  | .ok (.ret u), hq => exact I.after hq
theorem pe_ownG (F : GivesG X.prog X.w X.K X.mg X.base CX k x sp) (hgd : X.A.guards = some []) (hr : Room k X.A) (hg : Gl X x) (hx : Passes CX X E) (ha : PA X (e :: es) t) (hdb : (x == ("__debug__" : Str)) = false := by decide)
    (he : starEach (e :: es) X.env = (false, eval e X.env) :: starEach es X.env := by rfl) (hpl : (backTo pos (starEach es X.env)).any (·.1) = false := by rfl) :
    PE X (.Call (.Name x p) (e :: es) [] pos) (tOwn sp E t) := by
  obtain ⟨f, hm, hk, F⟩ := F
  refine ⟨fun pins s σ H Q I h => ?_⟩
  refine wpAny_Call_Name_kw (ld_glob I hg hm ?_ hdb)
  exact PySem.W.callWith_K (h₀ := X.base) I.ok.mod.kin hk (thn (ha.run pos pins s σ H _ I h) fun us s1 ⟨vs, H1, I1, r, q⟩ => ⟨I1.kIn, wpAny_call (run_fnG F hgd hr hx I1 r q)⟩) he hpl
theorem pe_ownG0 (F : GivesG X.prog X.w X.K X.mg X.base CX k x sp) (hgd : X.A.guards = some []) (hr : Room k X.A) (hg : Gl X x) (hx : Passes CX X E) (hdb : (x == ("__debug__" : Str)) = false := by decide) :
    PE X (.Call (.Name x p) [] [] pos) (tOwn sp E tNil) := by
  obtain ⟨f, hm, hk, F⟩ := F
  refine ⟨fun pins s σ H Q I h => ?_⟩
  refine wpAny_Call_Name_kw (ld_glob I hg hm ?_ hdb)
  exact PySem.W.callWith_K0 I.kIn hk (wpAny_call (run_fnG F hgd hr hx I .nil h))
/-! ### repr -/
def rRepr (K : PySem.W.Frag) : List V → Hp → VK → Prop := fun vs H Q => ∃ (x : V) (d : PyData), vs = [x] ∧ Dp K H x d ∧ d.showable = true ∧ d.depth ≤ 64 ∧ d.shown.length ≤ sizeLine ∧ Q (.str d.shown) H
theorem dp_noDict {K : PySem.W.Frag} {H : Hp} : ∀ {x : V} {d : PyData}, Dp K H x d → d.hasDict = false := by
  intro x d h
  have m : (∀ {x : V} {d : PyData}, Dp K H x d → d.hasDict = false) := fun {x d} h => by
    refine Dp.rec (motive_1 := fun x d _ => d.hasDict = false) (motive_2 := fun xs ds _ => PyData.hasDictAll ds = false) ?_ ?_ ?_ ?_ ?_ ?_ ?_ ?_ h
    · rfl
    · intro b; rfl
    · intro b; rfl
    · intro b; rfl
    · intro a xs ds _ _ ih
      exact ih
    · intro a xs ds _ _ ih
      exact ih
    · rfl
    · intro v vs d ds _ _ ih1 ih2
      show (d.hasDict || PyData.hasDictAll ds) = false
      rw [ih1, ih2]
      rfl
  exact m h
theorem call_repr (hg : X.A.guards = some []) (hu : X.A.units + 200 < cLine) : CallR X (.builtin "repr") (rRepr X.K) := by
  intro pins s σ H xs us Q I r h
  obtain ⟨x, d, rfl, hd, hs, hdp, hz, q⟩ := h
  obtain ⟨u, rfl, rx⟩ := vals1 r
  cases hd with
  | non =>
    cases rx
    exact PySem.P.repr_of_none ⟨.str _, H, I.tok _, ⟨_, rfl⟩, q⟩
  | bl b =>
    cases rx
    exact PySem.P.repr_of_bool ⟨.str _, H, I.tok _, ⟨_, rfl⟩, q⟩
  | int i =>
    obtain ⟨t, rfl⟩ := rx
    exact PySem.P.repr_of_int (of_decide_eq_true hs) ⟨.str _, H, I.tok _, ⟨_, rfl⟩, q⟩
  | str z =>
    obtain ⟨t, rfl⟩ := rx
    exact PySem.P.repr_of_str ⟨.str _, H, I.tok _, ⟨_, rfl⟩, q⟩ hz
  | @lst a xs ds h1 h2 =>
    cases rx
    obtain ⟨as, rd⟩ := Dp.reads I _ _ _ (.lst h1 h2) rfl
    exact repr_of_reads' rd hs (PyData.noDict_hsm (dp_noDict (.lst h1 h2))) hg (by omega) (fun _ _ e => e) (fun h' t tk hk => ⟨.str _, H, I.kept hk, ⟨_, rfl⟩, q⟩) hz
  | @tup a xs ds h1 h2 =>
    cases rx
    obtain ⟨as, rd⟩ := Dp.reads I _ _ _ (.tup h1 h2) rfl
    exact repr_of_reads' rd hs (PyData.noDict_hsm (dp_noDict (.tup h1 h2))) hg (by omega) (fun _ _ e => e) (fun h' t tk hk => ⟨.str _, H, I.kept hk, ⟨_, rfl⟩, q⟩) hz
end
theorem units200 {k : Nat} {A : Around} (r : Room k A) : A.units + 200 < cLine := by
  have := r.un
  omega
/-! ### calls by keywords -/
/-- the promise of a call whose last arguments are given by the names ks -/
def GivesK (P : Program) (w : World) (K : PySem.W.Frag) (mg : Str → Option Value) (base : Heap) (CX : CXT) (k : Nat) (x : Str) (ks : List Str) (sp : Sp) : Prop :=
  ∃ f, mg x = some (.ref f) ∧ PySem.W.keepIn K (.ref f) = true ∧ ∀ (A : Around) (outer : List Env) (s : Shared) (H : Hp) (us ws : List Value) (vs zs : List V) (Q : VK) (E : XK), Room k A → Env0 P w K mg base A outer s H → Vals vs us → Vals zs ws → ws.length = ks.length → sp (vs ++ zs) H Q E →
    codeAny (model P w) A (.call (.ref f) ⟨us, ks.zip ws⟩) (CR CX outer P w H s Q E) s
theorem givesK_of {P : Program} {w : World} {K : PySem.W.Frag} {mg : Str → Option Value} {base : Heap} {CX : CXT} {k : Nat} {x : Str} {sp : Sp} {f : Addr} {fd : FuncData} {ps ks : List Str} (hm : mg x = some (.ref f)) (hk : PySem.W.keepIn K (.ref f) = true) (F : FnOk P w K mg base CX k f fd ps sp)
    (b : ∀ us ws : List Value, ws.length = ks.length → us.length + ws.length = ps.length → bindArgs fd ⟨us, ks.zip ws⟩ = pure (ps.zip (us ++ ws))) : GivesK P w K mg base CX k x ks sp :=
  ⟨f, hm, hk, fun A outer s H us ws vs zs Q E hr e0 r rz hl hsp => by
    have hl2 := F.len _ H Q E hsp
    have r2 : Vals (vs ++ zs) (us ++ ws) := r.append rz
    exact F.run A outer s H _ (us ++ ws) (vs ++ zs) Q E hr e0 (.of_eq (b us ws hl (by rw [← List.length_append, ← r2.length]; exact hl2))) r2 hsp⟩
def tOwnK (sp : Sp) (E : XK) (t tk : TA) : TE := fun σ H Q => t σ H fun vs H1 => tk σ H1 fun zs H2 => sp (vs ++ zs) H2 Q E
section
variable {X : Cx} {CX : CXT} {k : Nat} {sp : Sp} {E : XK} {x : Str} {e : Expr} {es : List Expr} {kws : List Keyword} {ks : List Str} {t tk : TA} {p pos : Pos}
theorem pe_ownK0 (F : GivesK X.prog X.w X.K X.mg X.base CX k x ks sp) (hr : Room k X.A) (hg : Gl X x) (hx : Passes CX X E) (hkw : PK X kws tk) (hlen : kws.length = ks.length := by rfl) (hall : (backToKw pos (keywordEach kws X.env)).all (·.1.isSome) = true := by rfl) (hks : (backToKw pos (keywordEach kws X.env)).filterMap (·.1) = ks := by rfl)
    (hdb : (x == ("__debug__" : Str)) = false := by decide) (hpl : ((backTo pos (starEach [] X.env)).any (·.1) || (backToKw pos (keywordEach kws X.env)).any (·.1.isNone)) = false := by rfl) (hw : (backToKw pos (keywordEach kws X.env)).length = ks.length := by rfl) :
    PE X (.Call (.Name x p) [] kws pos) (fun σ H Q => tk σ H fun zs H2 => zs.length = ks.length ∧ sp zs H2 Q E) := by
  obtain ⟨f, hm, hk, F⟩ := F
  refine ⟨fun pins s σ H Q I h => ?_⟩
  refine wpAny_Call_Name_kw (ld_glob I hg hm ?_ hdb)
  refine PySem.W.callWith_KW0 (h₀ := X.base) I.ok.mod.kin hk hall (thn (hkw.run pos pins s σ H _ I h) fun ws s2 ⟨zs, H2, I2, rz, hzl, q2⟩ => ?_) hpl
  refine ⟨I2.kIn, ?_⟩
  rw [hks]
  refine wpAny_call (codeAny_mono (F X.A X.stack s2 H2 [] ws [] zs Q E hr I2.env0 .nil rz (by rw [← rz.length]; exact hzl) q2) fun y s' hq => ?_)
  match y, hq with
  | .error e, hq => exact hx pins σ H2 s2 e s' I2 hq
  | .ok (.ret u), hq => exact I2.after hq
end
/-! ### a def by its body -/
theorem givesG_fun {P : Program} {w : World} {K : PySem.W.Frag} {mg : Str → Option Value} {base : Heap} {k : Nat} {x : Str} {st : Stmt} {N ps : List Str} {sp : Sp} (T : Stands K mg x st) (S : FnScope N ps (defScope st))
    (hb : ∀ (kV doc pm : Value) (an : Option Addr) (cdv ct : Value) (us : List Value), us.length = ps.length → bindArgs (PySem.W.fnOf x x (defArgs st) (defBody st) (defScope st) .none kV doc pm an cdv ct) ⟨us, []⟩ = pure (ps.zip us))
    (len : ∀ vs H Q E, sp vs H Q E → vs.length = ps.length)
    (hbody : ∀ (f : Addr) (cdv : Value) (A : Around) (outer : List Env) (s : Shared) (H : Hp) (vs : List V) (Q : VK) (E : XK), A.guards = some [] → Room k (A.deeper (envOfC x (defScope st) s.heap.objs.size f cdv)) → sp vs H Q E →
      ∃ t, PSs (cxOf CX0 P w K mg base N x (defScope st) f cdv A outer s H E).nox (defBody st) t ∧ t { nx := fun _ H' => Q .non H', rt := Q } (start N vs) H) :
    GivesG P w K mg base CX0 (k + 1) x sp := by
  obtain ⟨f, fd, hm, F⟩ := T
  have kp := F.kp
  obtain ⟨oc, od, kV, doc, pm, an, cdv, ct, osl, rfl, lk, hcd⟩ := F.ex
  refine ⟨f, hm, kp, fun A outer s H us vs Q E hg hr e0 r hsp => ?_⟩
  have hl := len vs H Q E hsp
  refine StX.run_bnd lk hcd S hr e0 (G := fun xs H2 => xs = vs ∧ H2 = H) (fun A' Ex Q' h => ?_) (fun s2 H2 xs he hr' => ?_)
  · rw [hb kV doc pm an cdv ct us (by rw [← r.length]; exact hl)]
    exact wpAny_pure (h s H vs us e0 Un.refl rfl (fun _ _ z => z) r hl ⟨rfl, rfl⟩)
  · obtain ⟨rfl, rfl⟩ := he
    obtain ⟨t, h, q⟩ := hbody f cdv A outer s2 H2 xs Q E hg hr' hsp
    exact ⟨t, h.nox, q⟩
end Cb

end

section
set_option maxRecDepth 100000
set_option maxHeartbeats 4000000
namespace Cb
open PySem PySem.Spec PyProof.Rows L2
/-- the heap in which the script alone is tracked (not at all, if it is the module's own) -/
def scriptHp (own : Bool) (a : Addr) (vs : List Value) (ns : List Int) : Hp := fun b => if own = false ∧ b = a then some (.frz { cls := .type "list", data := .seq vs.toArray } (.lst (ns.map V.int))) else none
theorem scriptHp_some {own : Bool} {a b : Addr} {vs : List Value} {ns : List Int} {u : HO} (h : scriptHp own a vs ns b = some u) : own = false ∧ b = a ∧ u = .frz { cls := .type "list", data := .seq vs.toArray } (.lst (ns.map V.int)) := by
  unfold scriptHp at h
  split at h
  · rename_i c
    exact ⟨c.1, c.2, (Option.some.inj h).symm⟩
  · cases h
section
variable {P : Program} {w : World} {K : PySem.W.Frag} {mg mb : Str → Option Value} {CX : CXT} {k : Nat} {fa a : Addr} {sp : Sp} {s₁ : Shared} {vs : List Value} {ns : List Int}
theorem law_callG (KX : K.In s₁.heap) (hns : s₁.heap.Ns mainGlobals mg) (hb : s₁.heap.Ns builtinsNs mb) (hbb : ∀ x : Str, x ≠ "__name__" → mb x = bootBuiltins x) (hlim : s₁.heap.NoLimit) (hg : s₁.gens = #[])
    (ha : s₁.heap.get? a = some { cls := .type "list", data := .seq vs.toArray }) (hi : IntsAre vs ns) (hl : ns.length ≤ sizeLine) (hr : Room k callerA)
    (F : ∀ base : Heap, K.In base → base.Ns mainGlobals mg → FnG P w K mg base CX k fa sp)
    (hsp : ∀ H : Hp, SqL K H a (ns.map V.int) → sp [.ref a] H (fun v _ => v = .bl true) fun _ _ _ => False)
    (hCX : ∀ H e s', CX [] H s₁ (fun _ _ _ => False) e s' → False) :
    codeAny (model P w) callerA (.call (.ref fa) ⟨[.ref a], []⟩) (fun r s' => r = .ok (.ret (.bool true)) ∧ OldK s₁.heap s'.heap ∧ s'.os = s₁.os ∧ AllBare s'.gens) s₁ := by
  have lenV := hi.length
  -- is the script one of the module's own objects?
  obtain ⟨own, hown⟩ : ∃ own : Bool, (own = true → ∃ o, K.lookup a = some o) ∧ (own = false → K.lookup a = none) := by
    cases hk : K.lookup a with
    | some o => exact ⟨true, fun _ => ⟨o, rfl⟩, fun z => by cases z⟩
    | none => exact ⟨false, (fun z => by cases z), fun _ => rfl⟩
  generalize eH : scriptHp own a vs ns = H
  have hH : ∀ b u, H b = some u → own = false ∧ b = a ∧ u = .frz { cls := .type "list", data := .seq vs.toArray } (.lst (ns.map V.int)) := fun b u z => scriptHp_some (by rw [eH]; exact z)
  have hS : SqL K H a (ns.map V.int) := by
    cases own with
    | false => exact .inl (.inr ⟨_, by rw [← eH]; exact if_pos ⟨rfl, rfl⟩⟩)
    | true =>
      obtain ⟨o, ho⟩ := hown.1 rfl
      have e := KX a o ho
      rw [ha] at e
      cases e
      exact .inr ⟨_, vs.toArray, _, ho, rfl, rfl, rfl, by rw [List.size_toArray, lenV]; exact hl, by simpa using vals_ints hi⟩
  have hok : HOk P w H s₁.heap := fun b u z => by
    obtain ⟨_, rfl, rfl⟩ := hH b u z
    exact ⟨ha, by rw [List.length_map]; exact hl, vs, _, vals_ints hi, ha⟩
  have stay : ∀ {b : Addr} {o : Obj}, s₁.heap.get? b = some o → (b = a → own = true) → (hidT s₁.heap H).get? b = some o := fun {b o} e n => hidT_get e (by
    cases q : H b with
    | none => rfl
    | some u =>
      obtain ⟨z1, z2, _⟩ := hH b u q
      rw [n z2] at z1
      cases z1)
  have nsK : ∀ {b : Addr} {m : Str → Option Value}, s₁.heap.Ns b m → (hidT s₁.heap H).Ns b m := fun {b m} ⟨o, es, ep, e, d, r⟩ => ⟨o, es, ep, hidT_get e (by
    cases q : H b with
    | none => rfl
    | some u =>
      obtain ⟨_, z2, _⟩ := hH b u q
      subst z2
      rw [ha] at e
      cases e
      cases d), d, r⟩
  have hKb : K.In (hidT s₁.heap H) := fun b o e => stay (KX b o e) (fun z => by
    cases own with
    | true => rfl
    | false =>
      rw [z, hown.2 rfl] at e
      cases e)
  have hM : Mod K mg (hidT s₁.heap H) := ⟨hKb, nsK hns, ⟨mb, nsK hb, hbb⟩, by
    obtain ⟨mc, h1, h2⟩ := hlim
    exact ⟨mc, nsK h1, h2⟩⟩
  have e0 : Env0 P w K mg (hidT s₁.heap H) callerA [] s₁ H := ⟨rfl, hM, fun b o e => of_hidT e, Nat.le_of_eq (hidT_size _ _), trivial, fun b hb => absurd (show b ∈ ([] : List Addr) from hb) (by simp), hok, .of_eq hg⟩
  refine codeAny_mono (F _ hKb (nsK hns) callerA [] s₁ H [.ref a] [.ref a] _ _ rfl hr e0 (.cons rfl .nil) (hsp H hS)) fun r s' h => ?_
  match r, h with
  | .error e, h => exact (hCX H e s' h).elim
  | .ok (.ret u), h =>
    obtain ⟨v, H', os, bare, un, hok', r', q⟩ := h
    have q' : v = .bl true := q
    subst q'
    obtain rfl : u = Value.bool true := r'
    refine ⟨rfl, OldK.of_keep fun b o e => ?_, os, bare⟩
    cases q : H b with
    | none => exact un.keep b o e q (by intro z; exact absurd (show b ∈ ([] : List Addr) from z) (by simp)) (by simp)
    | some u =>
      obtain ⟨_, z2, z3⟩ := hH b u q
      subst z3
      have z4 := hok' b _ (un.frzs b _ _ q)
      subst z2
      rw [ha] at e
      cases e
      exact z4.1
end
theorem walk_ofG {l : PySem.W.OpenLaw} {n k : Nat} {q : Program} {loose : List Str} {XP : (Str → Option Value) → Heap → Prop} {YP : World → Heap → Prop} {d : DefRec} {K : Params → PySem.W.Frag} {CX : World → CXT} {sp : World → Sp}
    (hn : l.most = some n) (hn2 : n ≤ sizeLine) (hdf : d.params.defaults = []) (hr : Room k callerA)
    (hY : ∀ (w : World) (h : Heap), YP w h → (K w.params).In h)
    (F : ∀ (w : World) (mg : Str → Option Value) (fa : Addr) (h : Heap), (K w.params).In h → h.Ns mainGlobals mg → mg d.name = some (.ref fa) →
      ∀ base : Heap, (K w.params).In base → base.Ns mainGlobals mg → FnG l.prog w (K w.params) mg base (CX w) k fa (sp w))
    (hsp : ∀ (w : World) (H : Hp) (a : Addr) (ns : List Int), ns.length ≤ n → (∀ z ∈ ns, Builtin.Int.intBits z ≤ 1048576) → SqL (K w.params) H a (ns.map V.int) → sp w [.ref a] H (fun v _ => v = .bl true) fun _ _ _ => False)
    (hCX : ∀ (w : World) (H : Hp) (s : Shared) (e : Value) (s' : Shared), CX w [] H s (fun _ _ _ => False) e s' → False) :
    PySem.W.WalkO q loose XP YP l.row.toRowW d [] (fun f vs => PySem.call f vs) := by
  refine Att.attach_callB hn hdf fun w s₀ s₁ mg mb fa o pm cd doc a vs ns G Y ho hd hcd hmg hobj hints hlen hbits hg => ?_
  have KX := hY w _ Y
  exact law_callG KX G.T.g G.T.b G.T.builtins G.T.nolimit hg hobj hints (Nat.le_trans hlen hn2) hr (F w mg fa _ KX G.T.g hmg) (fun H hS => hsp w H a ns hlen hbits hS) fun H e s' => hCX w H s₁ e s'
end Cb

end

section
set_option maxRecDepth 100000
set_option maxHeartbeats 4000000
namespace Cb
open PySem PySem.Spec PyProof.Rows L2
/-- the datum of a flat value -/
def dV : V → PyData
  | .bl b => .bool b
  | .int i => .int i
  | .str x => .str x
  | _ => .none
/-- None, a truth, a number of moderate size -/
def smallV : V → Bool
  | .non => true
  | .bl _ => true
  | .int i => decide (i.natAbs < 2 ^ 200)
  | _ => false
theorem dp_flat {K : PySem.W.Frag} {H : Hp} : ∀ {x : V}, flatV x = true → Dp K H x (dV x)
  | .non, _ => .non
  | .bl b, _ => .bl b
  | .int i, _ => .int i
  | .str x, _ => .str x
theorem small_flat : ∀ {x : V}, smallV x = true → flatV x = true
  | .non, _ => rfl
  | .bl _, _ => rfl
  | .int _, _ => rfl
theorem dpAll_flat {K : PySem.W.Frag} {H : Hp} : ∀ {xs : List V}, xs.all flatV = true → DpAll K H xs (xs.map dV)
  | [], _ => .nil
  | x :: xs, h => by
    have h' := Bool.and_eq_true_iff.mp (show (flatV x && xs.all flatV) = true from h)
    exact .cons (dp_flat h'.1) (dpAll_flat h'.2)
theorem small_show : ∀ {x : V}, smallV x = true → (dV x).showable = true ∧ (dV x).shown.length ≤ 300
  | .non, _ => ⟨rfl, by decide⟩
  | .bl b, _ => ⟨rfl, by cases b <;> decide⟩
  | .int i, h => by
    have h1 : i.natAbs < 2 ^ 200 := of_decide_eq_true h
    have h2 : i.natAbs.log2 < 200 := by
      by_cases c : i.natAbs = 0
      · rw [c]
        decide
      · exact (Nat.log2_lt c).mpr h1
    refine ⟨decide_eq_true (by omega), ?_⟩
    have h3 := int_text_length_le (a := i) (k := 200) (by decide) h2
    show (Str.ofString (toString i)).length ≤ 300
    rw [PySem.ofString_length]
    omega
theorem all_show : ∀ {xs : List V}, xs.all smallV = true → PyData.showableAll (xs.map dV) = true ∧ (∀ t ∈ PyData.shownAll (xs.map dV), t.length ≤ 300) ∧ (PyData.shownAll (xs.map dV)).length = xs.length
  | [], _ => ⟨rfl, (fun _ h => nomatch h), rfl⟩
  | x :: xs, h => by
    have h' := Bool.and_eq_true_iff.mp (show (smallV x && xs.all smallV) = true from h)
    have a := small_show h'.1
    have b := all_show h'.2
    refine ⟨?_, ?_, ?_⟩
    · show ((dV x).showable && PyData.showableAll (xs.map dV)) = true
      rw [a.1, b.1]
      rfl
    · intro t ht
      rcases List.mem_cons.mp ht with e | e
      · rw [e]
        exact a.2
      · exact b.2.1 t e
    · show (PyData.shownAll (xs.map dV)).length + 1 = xs.length + 1
      rw [b.2.2]
theorem textFrom_bound : ∀ (ts : List Str) (k : Nat) (acc : Str), (∀ t ∈ ts, t.length ≤ 300) → (textFrom k acc ts).length ≤ acc.length + 302 * ts.length
  | [], k, acc, _ => by
    show acc.length ≤ _
    exact Nat.le_add_right _ _
  | t :: r, k, acc, h => by
    have ih := textFrom_bound r (k + 1) (acc ++ (if k > 0 then ", " else "" : String) ++ t) (fun x hx => h x (List.mem_cons_of_mem _ hx))
    have h1 := h t (List.mem_cons_self ..)
    show (textFrom (k + 1) (acc ++ (if k > 0 then ", " else "" : String) ++ t) r).length ≤ _
    have e1 : (acc ++ Str.ofString (if k > 0 then ", " else "" : String) ++ t).length ≤ acc.length + 2 + t.length := by
      rw [PySem.Str.length_append, PySem.Str.length_append]
      have : (Str.ofString (if k > 0 then ", " else "" : String)).length ≤ 2 := by
        split <;> decide
      omega
    rw [List.length_cons]
    omega
theorem flist_len {xs : List V} (h : xs.all smallV = true) (hn : xs.length ≤ 1000) : (PyData.list (xs.map dV)).shown.length ≤ sizeLine := by
  have a := all_show h
  show (listText (PyData.shownAll (xs.map dV))).length ≤ _
  unfold listText
  rw [PySem.Str.length_append]
  have b := textFrom_bound (PyData.shownAll (xs.map dV)) 0 "[" a.2.1
  rw [a.2.2] at b
  have e1 : (Str.ofString "[").length = 1 := by decide
  have e2 : (Str.ofString "]").length = 1 := by decide
  have e3 : (400000 : Nat) ≤ sizeLine := by decide
  rw [e1] at b
  rw [e2]
  omega
theorem depth_flat : ∀ xs : List V, PyData.depthAll (xs.map dV) ≤ 1
  | [] => Nat.zero_le _
  | x :: xs => by
    have a : (dV x).depth ≤ 1 := by
      cases x <;> exact (by decide : (0 : Nat) ≤ 1)
    have b := depth_flat xs
    show max (dV x).depth (PyData.depthAll (xs.map dV)) ≤ 1
    omega
/-- repr of a flat list -/
theorem repr_list {K : PySem.W.Frag} {H : Hp} {a : Addr} {xs : List V} {Q : VK} (h : SqL K H a xs) (hs : xs.all smallV = true) (hn : xs.length ≤ 1000) (q : Q (.str (PyData.list (xs.map dV)).shown) H) : rRepr K [.ref a] H Q := by
  refine ⟨.ref a, .list (xs.map dV), rfl, .lst h (dpAll_flat ?_), (all_show hs).1, ?_, flist_len hs hn, q⟩
  · rw [List.all_eq_true] at hs ⊢
    exact fun x hx => small_flat (hs x hx)
  · have := depth_flat xs
    show _ + 1 ≤ 64
    omega
theorem repr_flat {K : PySem.W.Frag} {H : Hp} {x : V} {Q : VK} (hs : smallV x = true) (q : Q (.str (dV x).shown) H) : rRepr K [x] H Q :=
  ⟨x, dV x, rfl, dp_flat (small_flat hs), (small_show hs).1, by cases x <;> exact (by decide : (0 : Nat) ≤ 64), Nat.le_trans (small_show hs).2 (by decide), q⟩
theorem dpL {K : PySem.W.Frag} {H : Hp} {a : Addr} {xs : List V} (h : SqL K H a xs) (hs : xs.all smallV = true) : Dp K H (.ref a) (.list (xs.map dV)) := .lst h (dpAll_flat (by
  rw [List.all_eq_true] at hs ⊢
  exact fun x hx => small_flat (hs x hx)))
theorem shL {xs : List V} (hs : xs.all smallV = true) : (PyData.list (xs.map dV)).showable = true := (all_show hs).1
theorem dth1 (x : V) : (dV x).depth ≤ 64 := by cases x <;> exact (by decide : (0 : Nat) ≤ 64)
theorem dthL (xs : List V) : (PyData.list (xs.map dV)).depth ≤ 64 := by
  have := depth_flat xs
  show _ + 1 ≤ 64
  omega
/-- the datum of a flat list, by what repr asks of it -/
theorem rpk (xs : List V) (hs : xs.all smallV = true) (hn : xs.length ≤ 1000) : ∃ D : PyData, (∀ (K : PySem.W.Frag) (H : Hp) (a : Addr), SqL K H a xs → Dp K H (.ref a) D) ∧ D.showable = true ∧ D.depth ≤ 64 ∧ D.shown.length ≤ sizeLine :=
  ⟨.list (xs.map dV), fun _ _ _ h => dpL h hs, shL hs, dthL xs, flist_len hs hn⟩
theorem rpf (x : V) (hs : smallV x = true) : ∃ D : PyData, (∀ (K : PySem.W.Frag) (H : Hp), Dp K H x D) ∧ D.showable = true ∧ D.depth ≤ 64 ∧ D.shown.length ≤ sizeLine :=
  ⟨dV x, fun _ _ => dp_flat (small_flat hs), (small_show hs).1, dth1 x, Nat.le_trans (small_show hs).2 (by decide)⟩
theorem no_before {ys : List V} {y : V} {j : Nat} (h : ((ys.take j).all fun z => !eqV z y) = true) : ∀ (m : Nat) (z : V), m < j → ys[m]? = some z → eqV z y = false := by
  intro m z hm hz
  have h1 : (ys.take j)[m]? = some z := by
    rw [List.getElem?_take, if_pos hm]
    exact hz
  have h2 := List.all_eq_true.mp h z (List.mem_of_getElem? h1)
  simpa using h2
/-! ### the law's own operations -/
theorem mask32 (x : Int) : band x 4294967295 = x % 4294967296 := by
  have e : (4294967295 : Int) = ((4294967295 : Nat) : Int) := rfl
  have m : ∀ n : Nat, n &&& 4294967295 = n % 4294967296 := fun n => Nat.and_two_pow_sub_one_eq_mod n 32
  rcases int_two x with ⟨n, rfl⟩ | ⟨n, rfl⟩
  · rw [e, band_pp, m]
    omega
  · rw [e, band_np, Nat.and_comm, m]
    omega
theorem band_mask (a b : Int) : band (a % 4294967296) (b % 4294967296) = band a b % 4294967296 := by
  rw [← mask32 a, ← mask32 b, ← mask32 (band a b)]
  rw [band_assoc, ← band_assoc 4294967295 b 4294967295, band_cm 4294967295 b, band_assoc b, band_self, ← band_assoc]
theorem do_and {a b : Int} (ha : Wd a) (hb : Wd b) : wrp (Builtin.bitAnd (a % 4294967296) (b % 4294967296)) = Builtin.bitAnd a b := by
  have e := band_mask a b
  have w := band_wd ha hb
  show wrp (band (a % 4294967296) (b % 4294967296)) = band a b
  rw [e]
  generalize band a b = x at w ⊢
  unfold wrp Wd at *
  omega
theorem do_or {a b : Int} (ha : Wd a) (hb : Wd b) : wrp (Builtin.bitOr (a % 4294967296) (b % 4294967296)) = Builtin.bitOr a b := by
  have e := band_mask a b
  have w := bor_wd ha hb
  rw [bor_eq, e]
  rw [bor_eq] at w ⊢
  generalize band a b = x at w ⊢
  unfold wrp Wd at *
  omega
theorem do_xor {a b : Int} (ha : Wd a) (hb : Wd b) : wrp (Builtin.bitXor (a % 4294967296) (b % 4294967296)) = Builtin.bitXor a b := by
  have e := band_mask a b
  have w := bxor_wd ha hb
  rw [bxor_eq, e]
  rw [bxor_eq] at w ⊢
  generalize band a b = x at w ⊢
  unfold wrp Wd at *
  omega
theorem do_shl (a b : Int) : wrp (a % 4294967296 * 2 ^ (b % 4294967296 % 32).toNat) = wrp (a * 2 ^ (b % 32).toNat) := by
  have e : b % 4294967296 % 32 = b % 32 := by omega
  rw [e]
  have e2 : a = a % 4294967296 + 4294967296 * (a / 4294967296) := by omega
  generalize a % 4294967296 = u at *
  generalize a / 4294967296 = k at *
  subst e2
  rw [Int.add_mul]
  exact (wrp_of (k * 2 ^ (b % 32).toNat) (by rw [Int.mul_assoc])).symm
theorem do_shr {a : Int} (ha : Wd a) (b : Int) : wrp (a / 2 ^ (b % 4294967296 % 32).toNat) = a / 2 ^ (b % 32).toNat := by
  have e : b % 4294967296 % 32 = b % 32 := by omega
  rw [e, wrp_id (shr_wd ha _)]
theorem fit_eq (i : Int) : (i + 2147483648) % 4294967296 - 2147483648 = wrp i := by
  unfold wrp
  omega
def spFit : Sp := fun vs H Q _ => ∃ i, vs = [.int i] ∧ Q (.int (wrp i)) H
def spDo : Sp := fun vs H Q _ => ∃ (o : Op) (a b : Int), vs = [.str o.name, .int a, .int b] ∧ Wd a ∧ Wd b ∧ ∀ H', Same H H' → Q (res o a b) H'
theorem res_small (o : Op) {a b : Int} (ha : Wd a) (hb : Wd b) : smallV (res o a b) = true := by
  have w : ∀ {i : Int}, Wd i → smallV (.int i) = true := fun {i} h => decide_eq_true (by unfold Wd at h; omega)
  cases o
  case div =>
    by_cases c : b = 0
    · rw [show res .div a b = .non from if_pos c]
      rfl
    · rw [res_div c]
      exact w (wrp_wd _)
  case rem =>
    by_cases c : b = 0
    · rw [show res .rem a b = .non from if_pos c]
      rfl
    · rw [res_rem c]
      exact w (wrp_wd _)
  all_goals first
    | exact w (wrp_wd _)
    | exact w (band_wd ha hb)
    | exact w (bor_wd ha hb)
    | exact w (bxor_wd ha hb)
    | exact w (shr_wd ha _)
    | exact w (b2_wd _)
end Cb

end

section
set_option maxRecDepth 100000
set_option maxHeartbeats 4000000
namespace Cb
open PySem PySem.Spec PyProof.Rows L2
inductive Pat where
  | word (i : Int) | unk (n : Nat) | un (o : Op) (p : Pat) | bin (o : Op) (p q : Pat)
def Op.quiet : Op → Bool
  | .div => false | .rem => false | .neg => false | .not => false | _ => true
/-- the pattern p stands at v -/
def PatAt (H : Hp) : V → Pat → Prop
  | v, .word i => ∃ a, v = .ref a ∧ H a = some (.tup [.str "word", .int i])
  | v, .unk n => ∃ a, v = .ref a ∧ H a = some (.tup [.str "unknown", .int (n : Int)])
  | v, .un o p => ∃ a x, v = .ref a ∧ H a = some (.tup [.str o.name, x]) ∧ PatAt H x p
  | v, .bin o p q => ∃ a x y, v = .ref a ∧ H a = some (.tup [.str o.name, x, y]) ∧ PatAt H x p ∧ PatAt H y q
/-- words are words, unknowns below m, operations with as many operands as they take, quiet -/
def Pat.ok (m : Nat) : Pat → Prop
  | .word i => Wd i
  | .unk n => n < m
  | .un o p => o.single = true ∧ p.ok m
  | .bin o p q => o.quiet = true ∧ p.ok m ∧ q.ok m
def Pat.depth : Pat → Nat
  | .word _ => 1
  | .unk _ => 1
  | .un _ p => p.depth + 1
  | .bin _ p q => max p.depth q.depth + 1
def Pat.unks : Pat → List Int
  | .word _ => []
  | .unk n => [(n : Int)]
  | .un _ p => p.unks
  | .bin _ p q => p.unks ++ q.unks
/-- the unknowns are below k -/
def Pat.bel (k : Nat) : Pat → Prop
  | .word _ => True
  | .unk n => n < k
  | .un _ p => p.bel k
  | .bin _ p q => p.bel k ∧ q.bel k
def asI : V → Int
  | .int i => i
  | _ => 0
def Pat.val (ns : List Int) : Pat → Int
  | .word i => i
  | .unk n => ns.getD n 0
  | .un o p => asI (res o (p.val ns) (p.val ns))
  | .bin o p q => asI (res o (p.val ns) (q.val ns))
theorem Pat.depth_pos : ∀ p : Pat, 1 ≤ p.depth
  | .word _ => Nat.le_refl _
  | .unk _ => Nat.le_refl _
  | .un _ _ => Nat.le_add_left _ _
  | .bin _ _ _ => Nat.le_add_left _ _
theorem PatAt.same {H H' : Hp} (s : Same H H') : ∀ {p : Pat} {v : V}, PatAt H v p → PatAt H' v p
  | .word _, _, ⟨a, e, h⟩ => ⟨a, e, s _ _ h⟩
  | .unk _, _, ⟨a, e, h⟩ => ⟨a, e, s _ _ h⟩
  | .un _ _, _, ⟨a, x, e, h, hp⟩ => ⟨a, x, e, s _ _ h, PatAt.same s hp⟩
  | .bin _ _ _, _, ⟨a, x, y, e, h, hp, hq⟩ => ⟨a, x, y, e, s _ _ h, PatAt.same s hp, PatAt.same s hq⟩
theorem tup_ne_pool {H : Hp} {p a : Addr} {xs : List V} (h : PoolAt H p) (e : H a = some (.tup xs)) : a ≠ p := by
  obtain ⟨x, d, n, e2, _⟩ := h
  exact ne_of e e2 (by intro z; cases z)
theorem PatAt.but {H H' : Hp} {c : Addr} (hc : PoolAt H c) (s : SameBut c H H') : ∀ {p : Pat} {v : V}, PatAt H v p → PatAt H' v p
  | .word _, _, ⟨a, e, h⟩ => ⟨a, e, s.at h (tup_ne_pool hc h)⟩
  | .unk _, _, ⟨a, e, h⟩ => ⟨a, e, s.at h (tup_ne_pool hc h)⟩
  | .un _ _, _, ⟨a, x, e, h, hp⟩ => ⟨a, x, e, s.at h (tup_ne_pool hc h), PatAt.but hc s hp⟩
  | .bin _ _ _, _, ⟨a, x, y, e, h, hp, hq⟩ => ⟨a, x, y, e, s.at h (tup_ne_pool hc h), PatAt.but hc s hp, PatAt.but hc s hq⟩
theorem Pat.ok_mono {m k : Nat} (h : m ≤ k) : ∀ {p : Pat}, p.ok m → p.ok k
  | .word _, q => q
  | .unk _, q => Nat.lt_of_lt_of_le q h
  | .un _ _, q => ⟨q.1, Pat.ok_mono h q.2⟩
  | .bin _ _ _, q => ⟨q.1, Pat.ok_mono h q.2.1, Pat.ok_mono h q.2.2⟩
theorem Pat.bel_of {m : Nat} : ∀ {p : Pat}, p.ok m → p.bel m
  | .word _, _ => trivial
  | .unk _, q => q
  | .un _ p, q => Pat.bel_of (p := p) q.2
  | .bin _ p r, q => ⟨Pat.bel_of (p := p) q.2.1, Pat.bel_of (p := r) q.2.2⟩
theorem res_int {o : Op} (ho : o.quiet = true ∨ o.single = true) {a b : Int} (ha : Wd a) (hb : Wd b) : ∃ v, res o a b = .int v ∧ Wd v := by
  revert ho
  cases o <;> intro ho <;> first
    | exact ⟨_, rfl, wrp_wd _⟩
    | exact ⟨_, rfl, band_wd ha hb⟩
    | exact ⟨_, rfl, bor_wd ha hb⟩
    | exact ⟨_, rfl, bxor_wd ha hb⟩
    | exact ⟨_, rfl, shr_wd ha _⟩
    | exact ⟨_, rfl, b2_wd _⟩
    | (exfalso; revert ho; decide)
theorem res_asI {o : Op} (ho : o.quiet = true ∨ o.single = true) {a b : Int} (ha : Wd a) (hb : Wd b) : res o a b = .int (asI (res o a b)) ∧ Wd (asI (res o a b)) := by
  obtain ⟨v, e, w⟩ := res_int ho ha hb
  rw [e]
  exact ⟨rfl, w⟩
theorem Pat.val_wd {ns : List Int} (hn : ∀ x ∈ ns, Wd x) {m : Nat} : ∀ {p : Pat}, p.ok m → Wd (p.val ns)
  | .word _, q => q
  | .unk n, q => by
    show Wd (ns.getD n 0)
    rw [List.getD_eq_getElem?_getD]
    cases e : ns[n]? with
    | none => exact ⟨by decide, by decide⟩
    | some x => exact hn x (List.mem_of_getElem? e)
  | .un o p, q => (res_asI (.inr q.1) (Pat.val_wd hn q.2) (Pat.val_wd hn q.2)).2
  | .bin o p r, q => (res_asI (.inl q.1) (Pat.val_wd hn q.2.1) (Pat.val_wd hn q.2.2)).2
/-! ### an operation and its parts -/
def Pat.kids : Pat → List Pat
  | .un _ p => [p]
  | .bin _ p q => [p, q]
  | _ => []
def Pat.op : Pat → Option Op
  | .un o _ => some o
  | .bin o _ _ => some o
  | _ => none
/-- a node: its tuple, its parts -/
theorem PatAt.node {H : Hp} {p : Pat} {v : V} {o : Op} (h : PatAt H v p) (ho : p.op = some o) : ∃ (a : Addr) (xs : List V), v = .ref a ∧ H a = some (.tup (.str o.name :: xs)) ∧ Paired (PatAt H) xs p.kids ∧ xs.length = p.kids.length := by
  cases p with
  | word i => cases ho
  | unk n => cases ho
  | un o' r =>
    cases ho
    obtain ⟨a, x, rfl, ha, hx⟩ := h
    exact ⟨a, [x], rfl, ha, .cons hx .nil, rfl⟩
  | bin o' r t =>
    cases ho
    obtain ⟨a, x, y, rfl, ha, hx, hy⟩ := h
    exact ⟨a, [x, y], rfl, ha, .cons hx (.cons hy .nil), rfl⟩
theorem Pat.kid_facts {p k : Pat} {m : Nat} (h : k ∈ p.kids) (ho : p.ok m) : k.ok m ∧ k.depth + 1 ≤ p.depth ∧ ∀ n, p.bel n → k.bel n := by
  cases p with
  | word i => cases h
  | unk n => cases h
  | un o r =>
    rw [List.mem_singleton.mp h]
    exact ⟨ho.2, Nat.le_refl _, fun _ z => z⟩
  | bin o r t =>
    rcases List.mem_cons.mp h with e | e
    · rw [e]
      exact ⟨ho.2.1, Nat.succ_le_succ (Nat.le_max_left _ _), fun _ z => z.1⟩
    · rw [List.mem_singleton.mp e]
      exact ⟨ho.2.2, Nat.succ_le_succ (Nat.le_max_right _ _), fun _ z => z.2⟩
theorem Pat.unks_kids {p : Pat} {o : Op} (h : p.op = some o) : p.unks = p.kids.flatMap Pat.unks := by
  cases p with
  | word i => cases h
  | unk n => cases h
  | un o r =>
    show r.unks = [r].flatMap Pat.unks
    simp
  | bin o r t =>
    show r.unks ++ t.unks = [r, t].flatMap Pat.unks
    simp
theorem Pat.op_ok {p : Pat} {o : Op} {m : Nat} (h : p.op = some o) (ho : p.ok m) : o.quiet = true ∨ o.single = true := by
  cases p with
  | word i => cases h
  | unk n => cases h
  | un o r =>
    cases h
    exact .inr ho.1
  | bin o r t =>
    cases h
    exact .inl ho.1
theorem Pat.kids_len {p : Pat} {o : Op} (h : p.op = some o) : 1 ≤ p.kids.length ∧ p.kids.length ≤ 2 := by
  cases p with
  | word i => cases h
  | unk n => cases h
  | un o r => exact ⟨by show 1 ≤ 1; decide, by show 1 ≤ 2; decide⟩
  | bin o r t => exact ⟨by show 1 ≤ 2; decide, by show 2 ≤ 2; decide⟩
/-- the slice t[1:] of a node's tuple -/
theorem cut1 (xs : List V) : cutV xs (some 1) none = xs.drop 1 := by
  unfold cutV
  rw [show HT.sIx xs.length 0 (some 1) = min 1 xs.length from HT.sIx_nat xs.length 0 1, HT.sIx_none]
  cases xs with
  | nil => rfl
  | cons x r =>
    rw [show min 1 (x :: r).length = 1 by
      rw [List.length_cons]
      omega]
    show (List.take ((x :: r).length - 1) r) = r
    rw [List.length_cons, Nat.add_sub_cancel]
    exact List.take_length
theorem at0 (x : V) (r : List V) : atI (x :: r) 0 = some x := atI_nat (j := 0) rfl
theorem cut1_not (x : V) (r : List V) : ¬ (HT.sIx (x :: r).length 0 (some 1) = 0 ∧ HT.sIx (x :: r).length (x :: r).length none = (x :: r).length) := by
  rw [show HT.sIx (x :: r).length 0 (some 1) = min 1 (x :: r).length from HT.sIx_nat _ 0 1, List.length_cons]
  omega
theorem paired_at {α β : Type} {F : α → β → Prop} : ∀ {l : List α} {m : List β} {i : Nat} {x : α}, Paired F l m → l[i]? = some x → ∃ y, m[i]? = some y ∧ F x y
  | _, _, _, _, .nil, e => by simp at e
  | _, _, 0, _, .cons r _, e => ⟨_, rfl, by cases e; exact r⟩
  | _, _, i + 1, x, .cons _ t, e => paired_at (i := i) t e
/-! ### promises -/
def spBelow (n : Nat) : Sp := fun vs H Q _ => ∃ (v : V) (d : Int) (p : Pat), vs = [v, .int d] ∧ PatAt H v p ∧ p.ok 1000 ∧ (p.depth : Int) ≤ d ∧ p.depth ≤ n ∧ ∀ H', Same H H' → Q (.bl true) H'
def spIsPat : Sp := fun vs H Q _ => ∃ (v : V) (p : Pat), vs = [v] ∧ PatAt H v p ∧ p.ok 1000 ∧ p.depth ≤ 12 ∧ ∀ H', Same H H' → Q (.bl true) H'
def spCheck : Sp := fun vs H Q _ => ∃ (v : V) (p : Pat), vs = [v] ∧ PatAt H v p ∧ p.ok 1000 ∧ p.depth ≤ 12 ∧ ∀ H', Same H H' → Q .non H'
def spUnks (n : Nat) : Sp := fun vs H Q _ => ∃ (v : V) (p : Pat), vs = [v] ∧ PatAt H v p ∧ p.ok 1000 ∧ p.depth ≤ n ∧ p.depth ≤ 12 ∧ ∀ H' r, Same H H' → H r = none → H' r = some (.lst (p.unks.map V.int)) → Q (.ref r) H'
def spWith (K : PySem.W.Frag) (n : Nat) : Sp := fun vs H Q _ => ∃ (v : V) (p : Pat) (w : Addr) (ns : List Int), vs = [v, .ref w] ∧ PatAt H v p ∧ p.ok 1000 ∧ p.depth ≤ n ∧ p.bel ns.length ∧ SqT K H w (ns.map V.int) ∧ (∀ x ∈ ns, Wd x) ∧ ∀ H', Same H H' → Q (.int (p.val ns)) H'
def spValB : Sp := fun vs H Q _ => ∃ (v : V) (w : Addr) (p : Pat) (ns : List Int), vs = [v, .ref w] ∧ PatAt H v p ∧ H w = some (.tup (ns.map V.int)) ∧ p.ok 1000 ∧ p.depth ≤ 12 ∧ p.bel ns.length ∧ (∀ x ∈ ns, Wd x) ∧ ∀ H', Same H H' → Q (.int (p.val ns)) H'
def spValueOf : Sp := fun vs H Q _ => ∃ (v : V) (p : Pat) (ns : List Int), vs = v :: ns.map V.int ∧ PatAt H v p ∧ p.ok 1000 ∧ p.depth ≤ 12 ∧ p.bel ns.length ∧ (∀ x ∈ ns, Wd x) ∧ ns.length ≤ 1000 ∧ ∀ H', Same H H' → Q (.int (p.val ns)) H'
/-! ### the law's drawn patterns -/
abbrev onm (o : Op) : V := .str o.name
def ways14 : List Op := [.add, .sub, .mul, .and, .or, .xor, .shl, .shr, .lt, .le, .gt, .ge, .eq, .ne]
theorem ways_quiet : ∀ o ∈ ways14, o.quiet = true := by decide
theorem pool_ne {H : Hp} {p q : Addr} {s : Str} {r : List V} (h : PoolAt H p) (e : H q = some (.lst (.str s :: r))) : q ≠ p := by
  obtain ⟨x, d, n, e2, _⟩ := h
  exact ne_of e e2 (by intro z; injection z with z; injection z with z; cases z)
def spWays14 : Sp := fun vs H Q _ => vs = [] ∧ ∀ H' r, Same H H' → H r = none → H' r = some (.lst (ways14.map onm)) → Q (.ref r) H'
def spLeaf : Sp := fun vs H Q _ => ∃ (c : Addr) (m : Int), vs = [.ref c, .int m] ∧ PoolAt H c ∧ 0 < m ∧ m ≤ 1000 ∧ ∀ H' v p, SameBut c H H' → PoolAt H' c → PatAt H' v p → p.ok m.toNat → p.depth = 1 → Q v H'
def spSketch (n : Nat) : Sp := fun vs H Q _ => ∃ (c : Addr) (d m : Int) (wa : Addr), vs = [.ref c, .int d, .int m, .ref wa] ∧ PoolAt H c ∧ 0 < m ∧ m ≤ 1000 ∧ H wa = some (.lst (ways14.map onm)) ∧ (0 ≤ d ∧ d < (n : Int)) ∧ ∀ H' v p, SameBut c H H' → PoolAt H' c → PatAt H' v p → p.ok m.toNat → ((p.depth : Int) ≤ d ∨ p.depth = 1) → Q v H'
/-- an item of a list of names at a drawn place -/
theorem at_ops (os : List Op) {r : Int} (h0 : 0 ≤ r) (h1 : r < (os.length : Int)) : ∃ o ∈ os, atI (os.map onm) r = some (.str o.name) := by
  have hk : r.toNat < os.length := by omega
  have er : r = ((r.toNat : Nat) : Int) := by omega
  have q : atI (os.map onm) ((r.toNat : Nat) : Int) = some (onm os[r.toNat]) := atI_nat (by rw [List.getElem?_map, List.getElem?_eq_getElem hk] <;> rfl)
  rw [← er] at q
  exact ⟨_, List.getElem_mem hk, q⟩
def Pat.least : Pat → Int
  | .word _ => 0
  | .unk n => (n : Int) + 1
  | .un _ p => p.least
  | .bin _ p q => max p.least q.least
theorem Pat.least_bel : ∀ {p : Pat} {k : Nat}, p.least ≤ (k : Int) → p.bel k
  | .word _, _, _ => trivial
  | .unk n, k, h => by
    have h2 : (n : Int) + 1 ≤ k := h
    show n < k
    omega
  | .un _ p, k, h => Pat.least_bel (p := p) h
  | .bin _ p q, k, h => by
    have h2 : max p.least q.least ≤ (k : Int) := h
    exact ⟨Pat.least_bel (p := p) (by omega), Pat.least_bel (p := q) (by omega)⟩
theorem Pat.least_le {m : Nat} : ∀ {p : Pat}, p.ok m → 0 ≤ p.least ∧ p.least ≤ m
  | .word _, _ => ⟨Int.le_refl 0, by show (0 : Int) ≤ m; omega⟩
  | .unk n, h => by
    have h2 : n < m := h
    exact ⟨by show 0 ≤ (n : Int) + 1; omega, by show (n : Int) + 1 ≤ m; omega⟩
  | .un _ p, h => Pat.least_le (p := p) h.2
  | .bin _ p q, h => by
    have a := Pat.least_le (p := p) h.2.1
    have b := Pat.least_le (p := q) h.2.2
    exact ⟨by show 0 ≤ max p.least q.least; omega, by show max p.least q.least ≤ m; omega⟩
def spLeast (n : Nat) : Sp := fun vs H Q _ => ∃ (v : V) (p : Pat), vs = [v] ∧ PatAt H v p ∧ p.ok 1000 ∧ p.depth ≤ n ∧ ∀ H', Same H H' → Q (.int p.least) H'
def spWorth (n : Nat) : Sp := fun vs H Q _ => ∃ (v : V) (p : Pat) (l : Addr) (ns : List Int), vs = [v, .ref l] ∧ PatAt H v p ∧ p.ok 1000 ∧ p.depth ≤ n ∧ p.bel ns.length ∧ H l = some (.lst (ns.map V.int)) ∧ (∀ x ∈ ns, Wd x) ∧ ∀ H', Same H H' → Q (.int (p.val ns)) H'
def spValued (f : Addr) : Sp := fun vs H Q _ => ∃ (v : V) (p : Pat) (l : Addr) (ns : List Int), vs = [.ref f, v, .ref l] ∧ PatAt H v p ∧ p.ok 1000 ∧ p.depth ≤ 12 ∧ p.bel ns.length ∧ H l = some (.lst (ns.map V.int)) ∧ (∀ x ∈ ns, Wd x) ∧ ns.length ≤ 5 ∧ ∀ H', Same H H' → Q (.int (p.val ns)) H'
theorem res_zero {o : Op} (h : o.single = true) (a : Int) : res o a 0 = res o a a := by
  revert h
  cases o <;> intro h <;> first | rfl | exact absurd h (by decide)
theorem pe_gd {X : Cx} {x : Str} {f : Addr} {pos : Pos} (hg : Gl X x) (hm : X.mg x = some (.ref f)) (hd : (x == ("__debug__" : Str)) = false := by decide) : PE X (.Name x pos) (tC (.ref f)) := pe_glob (v := .ref f) hg hm rfl hd
theorem PoolAt.updne {H : Hp} {c D : Addr} {o : HO} (h : PoolAt H c) (n : c ≠ D) : PoolAt (upd H D o) c := by
  obtain ⟨s, d, k, e, r⟩ := h
  exact ⟨s, d, k, by rw [upd_ne n]; exact e, r⟩
theorem cutTo (xs : List V) (k : Nat) : cutV xs none (some (k : Int)) = xs.take k := by
  unfold cutV
  rw [HT.sIx_none, show HT.sIx xs.length xs.length (some (k : Int)) = min k xs.length from HT.sIx_nat _ _ k, List.drop_zero, Nat.sub_zero]
  exact List.take_eq_take_min.symm
theorem Pat.val_take {ns : List Int} {k : Nat} : ∀ {p : Pat}, p.bel k → p.val (ns.take k) = p.val ns
  | .word _, _ => rfl
  | .unk n, h => by
    have h2 : n < k := h
    show (ns.take k).getD n 0 = ns.getD n 0
    rw [List.getD_eq_getElem?_getD, List.getD_eq_getElem?_getD, List.getElem?_take, if_pos h2]
  | .un o p, h => by
    show asI (res o (p.val (ns.take k)) (p.val (ns.take k))) = asI (res o (p.val ns) (p.val ns))
    rw [Pat.val_take (p := p) h]
  | .bin o p q, h => by
    show asI (res o (p.val (ns.take k)) (q.val (ns.take k))) = asI (res o (p.val ns) (q.val ns))
    rw [Pat.val_take (p := p) h.1, Pat.val_take (p := q) h.2]
theorem Pat.bel_mono {m k : Nat} (h : m ≤ k) : ∀ {p : Pat}, p.bel m → p.bel k
  | .word _, _ => trivial
  | .unk _, q => Nat.lt_of_lt_of_le q h
  | .un _ p, q => Pat.bel_mono (p := p) h q
  | .bin _ p r, q => ⟨Pat.bel_mono (p := p) h q.1, Pat.bel_mono (p := r) h q.2⟩
theorem small_wd {i : Int} (h : Wd i) : smallV (.int i) = true := decide_eq_true (by unfold Wd at h; omega)
theorem gives_none {P : Program} {w : World} {K : PySem.W.Frag} {mg : Str → Option Value} {base : Heap} {CX : CXT} {k : Nat} {x : Str} {st : Stmt} {sp : Sp} (T : Stands K mg x st) (no : ∀ vs H Q E, ¬ sp vs H Q E) : Gives P w K mg base CX k x sp := by
  obtain ⟨f, fd, hm, F⟩ := T
  exact ⟨f, hm, F.kp, fun A outer s H us vs Q E _ _ _ h => absurd h (no vs H Q E)⟩
theorem unks_len : ∀ {p : Pat}, p.unks.length ≤ 2 ^ p.depth
  | .word _ => Nat.zero_le _
  | .unk _ => by
    show 1 ≤ 2 ^ 1
    decide
  | .un _ p => by
    have h := unks_len (p := p)
    show p.unks.length ≤ 2 ^ (p.depth + 1)
    rw [Nat.pow_succ]
    omega
  | .bin _ p q => by
    have h := unks_len (p := p)
    have h2 := unks_len (p := q)
    show (p.unks ++ q.unks).length ≤ 2 ^ (max p.depth q.depth + 1)
    rw [List.length_append, Nat.pow_succ]
    have a : 2 ^ p.depth ≤ 2 ^ max p.depth q.depth := Nat.pow_le_pow_right (by decide) (Nat.le_max_left _ _)
    have b : 2 ^ q.depth ≤ 2 ^ max p.depth q.depth := Nat.pow_le_pow_right (by decide) (Nat.le_max_right _ _)
    omega
theorem unks_small {p : Pat} (h : p.depth ≤ 12) : p.unks.length ≤ 4096 := Nat.le_trans unks_len (Nat.pow_le_pow_right (n := 2) (by decide) h)
theorem unks_nn : ∀ {p : Pat} {x : Int}, x ∈ p.unks → 0 ≤ x
  | .unk n, x, h => by
    rw [List.mem_singleton.mp h]
    omega
  | .un _ p, x, h => unks_nn (p := p) h
  | .bin _ p q, x, h => by
    rcases List.mem_append.mp h with e | e
    · exact unks_nn (p := p) e
    · exact unks_nn (p := q) e
theorem unks_below : ∀ {p : Pat} {k : Nat}, p.bel k → ∀ x ∈ p.unks, x < (k : Int)
  | .word _, _, _, x, h => by cases h
  | .unk n, k, hb, x, h => by
    rw [List.mem_singleton.mp h]
    have : n < k := hb
    omega
  | .un _ p, k, hb, x, h => unks_below (p := p) hb x h
  | .bin _ p q, k, hb, x, h => by
    rcases List.mem_append.mp h with e | e
    · exact unks_below (p := p) hb.1 x e
    · exact unks_below (p := q) hb.2 x e
theorem nm_word (o : Op) : decide (V.str o.name = V.str "word") = false := by cases o <;> decide
theorem nm_unk (o : Op) : decide (V.str o.name = V.str "unknown") = false := by cases o <;> decide
theorem nm_single {o : Op} (h : o.single = true) : inV (.str o.name) [.str "neg", .str "not"] = true := by
  revert h
  cases o <;> decide
theorem nm_double {o : Op} (h : o.quiet = true) : (!inV (.str o.name) [.str "add", .str "sub", .str "mul", .str "div", .str "rem", .str "and", .str "or", .str "xor", .str "shl", .str "shr", .str "lt", .str "le", .str "gt", .str "ge", .str "eq", .str "ne"]) = false := by
  revert h
  cases o <;> decide
theorem nm_divrem {o : Op} (h : o.quiet = true) : inV (.str o.name) [.str "div", .str "rem"] = false := by
  revert h
  cases o <;> decide
theorem op_name_in (o : Op) : inV (.str o.name) [.str "word", .str "unknown"] = false := by cases o <;> rfl
end Cb

end

section
set_option maxRecDepth 100000
set_option maxHeartbeats 4000000
namespace Cb
open PySem PySem.Spec PyProof.Rows L2
/-- no pool: not three numbers -/
def npool : List V → Bool
  | [.int _, .int _, .int _] => false
  | _ => true
/-- at most n items -/
def few {α : Type} : Nat → List α → Bool
  | _, [] => true
  | 0, _ => false
  | n + 1, _ :: r => few n r
theorem few_le {α : Type} : ∀ {n : Nat} {xs : List α}, few n xs = true → xs.length ≤ n
  | _, [], _ => Nat.zero_le _
  | 0, _ :: _, h => nomatch h
  | n + 1, _ :: r, h => Nat.succ_le_succ (few_le (xs := r) h)
theorem few_of {α : Type} : ∀ {n : Nat} {xs : List α}, xs.length ≤ n → few n xs = true
  | _, [], _ => by unfold few; rfl
  | 0, _ :: _, h => absurd h (by simp)
  | n + 1, _ :: r, h => few_of (xs := r) (Nat.le_of_succ_le_succ h)
mutual
/-- the datum d stands at v -/
inductive DA (H : Hp) : V → PyData → Prop
  | non : DA H .non .none
  | bl (b : Bool) : DA H (.bl b) (.bool b)
  | int (i : Int) : DA H (.int i) (.int i)
  | str (x : Str) : DA H (.str x) (.str x)
  | lst {a : Addr} {xs : List V} {ds : List PyData} : H a = some (.lst xs) → npool xs = true → few 3 xs = true → DAll H xs ds → DA H (.ref a) (.list ds)
  | tup {a : Addr} {xs : List V} {ds : List PyData} : H a = some (.tup xs) → DAll H xs ds → DA H (.ref a) (.tuple ds)
  | dct {a : Addr} : H a = some (.dK []) → DA H (.ref a) (.dict [])
inductive DAll (H : Hp) : List V → List PyData → Prop
  | nil : DAll H [] []
  | cons {v : V} {vs : List V} {d : PyData} {ds : List PyData} : DA H v d → DAll H vs ds → DAll H (v :: vs) (d :: ds)
end
mutual
theorem DA.stay {H H' : Hp} (s : ∀ a o, H a = some o → (∀ xs, o = .lst xs → npool xs = true ∧ few 3 xs = true) → H' a = some o) : ∀ (d : PyData) (v : V), DA H v d → DA H' v d
  | .none, _, h => by cases h; exact .non
  | .bool b, _, h => by cases h; exact .bl b
  | .int i, _, h => by cases h; exact .int i
  | .str x, _, h => by cases h; exact .str x
  | .list ds, _, h => by
    cases h with
    | lst ha hn hs hd => exact .lst (s _ _ ha (fun xs e => by cases e; exact ⟨hn, hs⟩)) hn hs (DAll.stay s ds _ hd)
  | .tuple ds, _, h => by
    cases h with
    | tup ha hd => exact .tup (s _ _ ha (fun xs e => nomatch e)) (DAll.stay s ds _ hd)
  | .dict _, _, h => by
    cases h with
    | dct ha => exact .dct (s _ _ ha (fun xs e => nomatch e))
theorem DAll.stay {H H' : Hp} (s : ∀ a o, H a = some o → (∀ xs, o = .lst xs → npool xs = true ∧ few 3 xs = true) → H' a = some o) : ∀ (ds : List PyData) (vs : List V), DAll H vs ds → DAll H' vs ds
  | [], _, h => by cases h; exact .nil
  | d :: ds, _, h => by
    cases h with
    | cons h1 h2 => exact .cons (DA.stay s d _ h1) (DAll.stay s ds _ h2)
end
theorem DA.same {H H' : Hp} {v : V} {d : PyData} (h : DA H v d) (s : Same H H') : DA H' v d := DA.stay (fun a o e _ => s a o e) d v h
theorem DAll.same {H H' : Hp} {v : List V} {d : List PyData} (h : DAll H v d) (s : Same H H') : DAll H' v d := DAll.stay (fun a o e _ => s a o e) d v h
theorem pool_stay {H H' : Hp} {c : Addr} (hc : PoolAt H c) (s : SameBut c H H') : ∀ a o, H a = some o → (∀ xs, o = .lst xs → npool xs = true ∧ few 3 xs = true) → H' a = some o := by
  intro a o e n
  obtain ⟨x, d, k, e2, _⟩ := hc
  refine s.at e fun z => ?_
  subst z
  rw [e2] at e
  cases e
  exact absurd (n _ rfl).1 (by intro z; cases z)
theorem DA.but {H H' : Hp} {c : Addr} {v : V} {d : PyData} (h : DA H v d) (hc : PoolAt H c) (s : SameBut c H H') : DA H' v d := DA.stay (pool_stay hc s) d v h
theorem long_stay {H : Hp} {l : Addr} {ys : List V} {o' : HO} (hl : H l = some (.lst ys)) (hn : 3 < ys.length) : ∀ a o, H a = some o → (∀ xs, o = .lst xs → npool xs = true ∧ few 3 xs = true) → upd H l o' a = some o := by
  intro a o e n
  have h : a ≠ l := fun z => by
    subst z
    rw [hl] at e
    cases e
    have := few_le (n _ rfl).2
    omega
  rw [upd_ne h]
  exact e
theorem DA.long {H : Hp} {l : Addr} {ys : List V} {o' : HO} {v : V} {d : PyData} (hl : H l = some (.lst ys)) (hn : 3 < ys.length) (h : DA H v d) : DA (upd H l o') v d := DA.stay (long_stay hl hn) d v h
theorem DAll.length {H : Hp} : ∀ {vs : List V} {ds : List PyData}, DAll H vs ds → vs.length = ds.length
  | _, _, .nil => rfl
  | _, _, .cons _ t => congrArg (· + 1) t.length
/-! ### reading -/
mutual
def noList : PyData → Bool
  | .list _ => false
  | .tuple xs => noListAll xs
  | _ => true
def noListAll : List PyData → Bool
  | [] => true
  | x :: xs => noList x && noListAll xs
end
section
variable {X : Cx} {pins : List (Addr × Obj)} {σ : L2.St} {H : Hp} {s : Shared}
mutual
theorem DA.reads (I : L2.Inv X pins σ H s) : ∀ (d : PyData) (v : V) (u : Value), DA H v d → RelV v u → ∃ as, Reads s.heap u d as ∧ (noList d = true → sysModules ∉ as)
  | .none, _, _, h, r => by
    cases h
    cases r
    exact ⟨_, Reads.none, fun _ z => nomatch z⟩
  | .bool b, _, _, h, r => by
    cases h
    cases r
    exact ⟨_, Reads.bool b, fun _ z => nomatch z⟩
  | .int i, _, _, h, r => by
    cases h
    obtain ⟨t, rfl⟩ := r
    exact ⟨_, Reads.int i t, fun _ z => nomatch z⟩
  | .str x, _, _, h, r => by
    cases h
    obtain ⟨t, rfl⟩ := r
    exact ⟨_, Reads.str x t, fun _ z => nomatch z⟩
  | .list ds, _, _, h, r => by
    cases h with
    | lst hs hn _ ha =>
      cases r
      obtain ⟨its, rv, ⟨o, n, ho, hc, _, hd⟩, _⟩ := I.list (.inl (.inl hs))
      obtain ⟨as, hr, _⟩ := DAll.reads I ds _ its ha rv
      exact ⟨_, Reads.list ho hc hd hr, fun z => nomatch z⟩
  | .tuple ds, _, _, h, r => by
    cases h with
    | tup hs ha =>
      cases r
      obtain ⟨its, rv, ⟨o, ho, hc, n, hd⟩, _⟩ := I.tuple (.inl (.inl hs))
      obtain ⟨as, hr, hn⟩ := DAll.reads I ds _ its ha rv
      exact ⟨_, Reads.tuple ho hc hd hr, hn⟩
  | .dict _, _, _, h, r => by
    cases h with
    | @dct a ha =>
      cases r
      obtain ⟨_, hsm, vs, hkv, o, es, ep, h1, h2, h3, _, h4, _⟩ := (show ObjOk X.prog X.w H s.heap a (.dK []) from I.hok a _ ha)
      cases hkv
      have e : es.toList = [] := by
        generalize es.toList = l at h4
        cases h4
        rfl
      refine ⟨_, Reads.dict (as := []) (bs := []) h1 h2.1 h3 (by rw [e]; exact .nil) (by rw [e]; exact .nil), fun _ z => ?_⟩
      have z' : sysModules = a := by simpa using z
      rw [z'] at hsm
      simp at hsm
theorem DAll.reads (I : L2.Inv X pins σ H s) : ∀ (ds : List PyData) (vs : List V) (us : List Value), DAll H vs ds → Vals vs us → ∃ as, ReadsAll s.heap us ds as ∧ (noListAll ds = true → sysModules ∉ as)
  | [], _, _, h, r => by
    cases h
    cases r
    exact ⟨_, ReadsAll.nil, fun _ z => nomatch z⟩
  | d :: ds, _, _, h, r => by
    cases h with
    | cons h1 h2 =>
      cases r with
      | cons r1 r2 =>
        obtain ⟨as, q1, n1⟩ := DA.reads I d _ _ h1 r1
        obtain ⟨bs, q2, n2⟩ := DAll.reads I ds _ _ h2 r2
        refine ⟨_, ReadsAll.cons q1 q2, fun z y => ?_⟩
        have z' := Bool.and_eq_true_iff.mp (show (noList d && noListAll ds) = true from z)
        rcases List.mem_append.mp y with y | y
        · exact n1 z'.1 y
        · exact n2 z'.2 y
end
end
/-- a datum whose text has at most n signs, at most m levels; b: without lists, else without dicts -/
structure Fit (b : Bool) (n m : Nat) (d : PyData) : Prop where
  sh : d.showable = true
  len : d.shown.length ≤ n
  dep : d.depth ≤ m
  kd : (if b = true then noList d = true else d.hasDict = false)
structure FitAll (b : Bool) (n m : Nat) (ds : List PyData) : Prop where
  sh : PyData.showableAll ds = true
  len : piled (PyData.shownAll ds) ≤ n
  dep : PyData.depthAll ds ≤ m
  kd : (if b = true then noListAll ds = true else PyData.hasDictAll ds = false)
theorem FitAll.nil {b : Bool} {n m : Nat} : FitAll b n m [] := ⟨rfl, Nat.zero_le _, Nat.zero_le _, by cases b <;> rfl⟩
theorem FitAll.cons {b : Bool} {n k j m : Nat} {d : PyData} {ds : List PyData} (h : Fit b n m d) (t : FitAll b k m ds) (e : n + 2 + k ≤ j) : FitAll b j m (d :: ds) := by
  refine ⟨?_, ?_, ?_, ?_⟩
  · show (d.showable && PyData.showableAll ds) = true
    rw [h.sh, t.sh]
    rfl
  · show piled (d.shown :: PyData.shownAll ds) ≤ j
    rw [piled_cons]
    have := h.len
    have := t.len
    omega
  · show max d.depth (PyData.depthAll ds) ≤ m
    have := h.dep
    have := t.dep
    omega
  · cases b
    · show (d.hasDict || PyData.hasDictAll ds) = false
      rw [show d.hasDict = false from h.kd, show PyData.hasDictAll ds = false from t.kd]
      rfl
    · show (noList d && noListAll ds) = true
      rw [show noList d = true from h.kd, show noListAll ds = true from t.kd]
      rfl
theorem textFrom_piled : ∀ (ts : List Str) (k : Nat) (acc : Str), (textFrom k acc ts).length ≤ acc.length + piled ts
  | [], k, acc => Nat.le_add_right _ _
  | t :: r, k, acc => by
    have ih := textFrom_piled r (k + 1) (acc ++ (if k > 0 then ", " else "" : String) ++ t)
    show (textFrom (k + 1) (acc ++ (if k > 0 then ", " else "" : String) ++ t) r).length ≤ _
    have e1 : (acc ++ Str.ofString (if k > 0 then ", " else "" : String) ++ t).length ≤ acc.length + 2 + t.length := by
      rw [PySem.Str.length_append, PySem.Str.length_append]
      have : (Str.ofString (if k > 0 then ", " else "" : String)).length ≤ 2 := by
        split <;> decide
      omega
    rw [piled_cons]
    omega
theorem Fit.tup {b : Bool} {n k m : Nat} {ds : List PyData} (h : FitAll b n m ds) (e : n + 4 ≤ k) : Fit b k (m + 1) (.tuple ds) := by
  refine ⟨h.sh, ?_, Nat.succ_le_succ h.dep, ?_⟩
  · show (tupleText (PyData.shownAll ds)).length ≤ k
    unfold tupleText
    rw [PySem.Str.length_append, PySem.Str.length_append]
    have e1 : (Str.ofString "(").length = 1 := by decide
    have e2 : (Str.ofString (if (PyData.shownAll ds).length == 1 then ",)" else ")" : String)).length ≤ 2 := by
      split <;> decide
    have e3 : (Str.join ", " (PyData.shownAll ds)).length ≤ piled (PyData.shownAll ds) := by
      by_cases c : PyData.shownAll ds = []
      · rw [c]
        decide
      · have := join_length_add _ c
        omega
    have := h.len
    omega
  · cases b
    · exact h.kd
    · exact h.kd
theorem Fit.lst {n k m : Nat} {ds : List PyData} (h : FitAll false n m ds) (e : n + 4 ≤ k) : Fit false k (m + 1) (.list ds) := by
  refine ⟨h.sh, ?_, Nat.succ_le_succ h.dep, h.kd⟩
  show (listText (PyData.shownAll ds)).length ≤ k
  unfold listText
  rw [PySem.Str.length_append]
  have e1 : (Str.ofString "[").length = 1 := by decide
  have e2 : (Str.ofString "]").length = 1 := by decide
  have e3 := textFrom_piled (PyData.shownAll ds) 0 "["
  have := h.len
  omega
theorem Fit.dct {k m : Nat} (e : 2 ≤ k) (e2 : 1 ≤ m) : Fit true k m (.dict []) := ⟨rfl, e, e2, rfl⟩
theorem Fit.non {b : Bool} {n m : Nat} (e : 4 ≤ n) : Fit b n m .none := ⟨rfl, e, Nat.zero_le _, by cases b <;> rfl⟩
theorem Fit.bl {b : Bool} {n m : Nat} {x : Bool} (e : 5 ≤ n) : Fit b n m (.bool x) := ⟨rfl, by cases x; exact e; exact Nat.le_of_succ_le e, Nat.zero_le _, by cases b <;> rfl⟩
theorem Fit.int {b : Bool} {n m : Nat} {i : Int} (hi : i.natAbs < 2 ^ 40) (e : 42 ≤ n) : Fit b n m (.int i) := by
  have h2 : i.natAbs.log2 < 40 := by
    by_cases c : i.natAbs = 0
    · rw [c]
      decide
    · exact (Nat.log2_lt c).mpr hi
  refine ⟨decide_eq_true (by omega), ?_, Nat.zero_le _, by cases b <;> rfl⟩
  have h3 := int_text_length_le (a := i) (k := 40) (by decide) h2
  show (Str.ofString (toString i)).length ≤ n
  rw [PySem.ofString_length]
  omega
theorem Fit.str {b : Bool} {n m : Nat} {x : Str} (e : (PyData.str x).shown.length ≤ n) : Fit b n m (.str x) := ⟨rfl, e, Nat.zero_le _, by cases b <;> rfl⟩
theorem Fit.mono {b : Bool} {n m k j : Nat} {d : PyData} (h : Fit b n m d) (e : n ≤ k) (e2 : m ≤ j) : Fit b k j d := ⟨h.sh, Nat.le_trans h.len e, Nat.le_trans h.dep e2, h.kd⟩
theorem Fit.dict {b : Bool} {n m : Nat} {d : PyData} (h : Fit b n m d) : d.hasDict = true → noList d = true := by
  intro z
  cases b
  · have := h.kd
    rw [show d.hasDict = false from h.kd] at z
    cases z
  · exact h.kd
/-! ### repr of a datum -/
def rReprD (m : Nat) : List V → Hp → VK → Prop := fun vs H Q => ∃ (x : V) (d : PyData) (b : Bool) (n : Nat), vs = [x] ∧ DA H x d ∧ Fit b n m d ∧ n ≤ sizeLine ∧ Q (.str d.shown) H
theorem call_reprD {X : Cx} {m : Nat} (hg : X.A.guards = some []) (hu : X.A.units + (m + 1) < cLine) : CallR X (.builtin "repr") (rReprD m) := by
  intro pins s σ H xs us Q I r h
  obtain ⟨x, d, b, n, rfl, hd, hf, hn, q⟩ := h
  obtain ⟨u, rfl, rx⟩ := vals1 r
  have hz := Nat.le_trans hf.len hn
  have hdp := hf.dep
  cases hd with
  | non =>
    cases rx
    exact PySem.P.repr_of_none ⟨.str _, H, I.tok _, ⟨_, rfl⟩, q⟩
  | bl b =>
    cases rx
    exact PySem.P.repr_of_bool ⟨.str _, H, I.tok _, ⟨_, rfl⟩, q⟩
  | int i =>
    obtain ⟨t, rfl⟩ := rx
    exact PySem.P.repr_of_int (of_decide_eq_true hf.sh) ⟨.str _, H, I.tok _, ⟨_, rfl⟩, q⟩
  | str z =>
    obtain ⟨t, rfl⟩ := rx
    exact PySem.P.repr_of_str ⟨.str _, H, I.tok _, ⟨_, rfl⟩, q⟩ hz
  | @lst a xs ds h1 h2 h4 h3 =>
    cases rx
    obtain ⟨as, rd, nl⟩ := DA.reads I _ _ _ (.lst h1 h2 h4 h3) rfl
    exact repr_of_reads' rd hf.sh (fun z => nl (hf.dict z)) hg (by omega) (fun _ _ e => e) (fun h' t tk hk => ⟨.str _, H, I.kept hk, ⟨_, rfl⟩, q⟩) hz
  | @tup a xs ds h1 h2 =>
    cases rx
    obtain ⟨as, rd, nl⟩ := DA.reads I _ _ _ (.tup h1 h2) rfl
    exact repr_of_reads' rd hf.sh (fun z => nl (hf.dict z)) hg (by omega) (fun _ _ e => e) (fun h' t tk hk => ⟨.str _, H, I.kept hk, ⟨_, rfl⟩, q⟩) hz
  | @dct a h1 =>
    cases rx
    obtain ⟨as, rd, nl⟩ := DA.reads I _ _ _ (.dct h1) rfl
    exact repr_of_reads' rd hf.sh (fun z => nl (hf.dict z)) hg (by omega) (fun _ _ e => e) (fun h' t tk hk => ⟨.str _, H, I.kept hk, ⟨_, rfl⟩, q⟩) hz
end Cb

end

section
set_option maxRecDepth 100000
set_option maxHeartbeats 4000000
namespace Cb
open PySem PySem.Spec PyProof.Rows L2
def tyN : PyData → String
  | .none => "NoneType" | .bool _ => "bool" | .int _ => "int" | .str _ => "str" | .list _ => "list" | .tuple _ => "tuple" | .dict _ => "dict"
theorem DA.ty {K : PySem.W.Frag} {H : Hp} {v : V} {d : PyData} (h : DA H v d) : TyX K H v (.type (tyN d)) := by
  cases h with
  | non => exact .base .non
  | bl b => exact .base (.bl b)
  | int i => exact .base (.int i)
  | str x => exact .base (.str x)
  | lst h _ _ _ => exact .base (.lst h)
  | tup h _ => exact .base (.tup h)
  | dct h => exact .base (.dK h)
def isInt : PyData → Bool
  | .bool _ => true | .int _ => true | _ => false
def isBool : PyData → Bool
  | .bool _ => true | _ => false
def isStr : PyData → Bool
  | .str _ => true | _ => false
def isTup : PyData → Bool
  | .tuple _ => true | _ => false
def isList : PyData → Bool
  | .list _ => true | _ => false
def rIsiD (f : PyData → Bool) (T : String) : List V → Hp → VK → Prop := fun vs H Q => ∃ (v : V) (d : PyData), vs = [v, .ty T] ∧ DA H v d ∧ Q (.bl (f d)) H
theorem call_isiD {X : Cx} {f : PyData → Bool} {T : String} (hT : ∀ d, kitB (tyN d) T = some (f d)) : CallR X (.builtin "isinstance") (rIsiD f T) := by
  intro pins s σ H xs us Q I r h
  obtain ⟨v, d, rfl, hd, q⟩ := h
  exact call_isi pins s σ H _ us Q I r ⟨v, .ty T, _, _, _, rfl, .ty T, hd.ty, kit_ty (hT d), q⟩
theorem kb_int : ∀ d : PyData, kitB (tyN d) "int" = some (isInt d)
  | .none => (by decide +kernel : kitB "NoneType" "int" = some false)
  | .bool _ => (by decide +kernel : kitB "bool" "int" = some true)
  | .int _ => (by decide +kernel : kitB "int" "int" = some true)
  | .str _ => (by decide +kernel : kitB "str" "int" = some false)
  | .list _ => (by decide +kernel : kitB "list" "int" = some false)
  | .tuple _ => (by decide +kernel : kitB "tuple" "int" = some false)
  | .dict _ => (by decide +kernel : kitB "dict" "int" = some false)
theorem kb_bool : ∀ d : PyData, kitB (tyN d) "bool" = some (isBool d)
  | .none => (by decide +kernel : kitB "NoneType" "bool" = some false)
  | .bool _ => (by decide +kernel : kitB "bool" "bool" = some true)
  | .int _ => (by decide +kernel : kitB "int" "bool" = some false)
  | .str _ => (by decide +kernel : kitB "str" "bool" = some false)
  | .list _ => (by decide +kernel : kitB "list" "bool" = some false)
  | .tuple _ => (by decide +kernel : kitB "tuple" "bool" = some false)
  | .dict _ => (by decide +kernel : kitB "dict" "bool" = some false)
theorem kb_str : ∀ d : PyData, kitB (tyN d) "str" = some (isStr d)
  | .none => (by decide +kernel : kitB "NoneType" "str" = some false)
  | .bool _ => (by decide +kernel : kitB "bool" "str" = some false)
  | .int _ => (by decide +kernel : kitB "int" "str" = some false)
  | .str _ => (by decide +kernel : kitB "str" "str" = some true)
  | .list _ => (by decide +kernel : kitB "list" "str" = some false)
  | .tuple _ => (by decide +kernel : kitB "tuple" "str" = some false)
  | .dict _ => (by decide +kernel : kitB "dict" "str" = some false)
theorem kb_tuple : ∀ d : PyData, kitB (tyN d) "tuple" = some (isTup d)
  | .none => (by decide +kernel : kitB "NoneType" "tuple" = some false)
  | .bool _ => (by decide +kernel : kitB "bool" "tuple" = some false)
  | .int _ => (by decide +kernel : kitB "int" "tuple" = some false)
  | .str _ => (by decide +kernel : kitB "str" "tuple" = some false)
  | .list _ => (by decide +kernel : kitB "list" "tuple" = some false)
  | .tuple _ => (by decide +kernel : kitB "tuple" "tuple" = some true)
  | .dict _ => (by decide +kernel : kitB "dict" "tuple" = some false)
theorem kb_list : ∀ d : PyData, kitB (tyN d) "list" = some (isList d)
  | .none => (by decide +kernel : kitB "NoneType" "list" = some false)
  | .bool _ => (by decide +kernel : kitB "bool" "list" = some false)
  | .int _ => (by decide +kernel : kitB "int" "list" = some false)
  | .str _ => (by decide +kernel : kitB "str" "list" = some false)
  | .list _ => (by decide +kernel : kitB "list" "list" = some true)
  | .tuple _ => (by decide +kernel : kitB "tuple" "list" = some false)
  | .dict _ => (by decide +kernel : kitB "dict" "list" = some false)
theorem upd_new {H : Hp} {p a : Addr} {o u : HO} (n : H p = none) (h : H a = some o) : upd H p u a = some o := same_upd n _ _ h
theorem but_tup {H H' : Hp} {a c : Addr} {xs : List V} (s : SameBut c H H') (hc : PoolAt H c) (h : H a = some (.tup xs)) : H' a = some (.tup xs) := s.at h (tup_ne_pool hc h)
theorem but_lst {H H' : Hp} {a c : Addr} {xs : List V} (s : SameBut c H H') (hc : PoolAt H c) (h : H a = some (.lst xs)) (n : npool xs = true) : H' a = some (.lst xs) := by
  obtain ⟨x, d, k, e2, _⟩ := hc
  refine s.at h fun z => ?_
  subst z
  rw [e2] at h
  cases h
  cases n
theorem but_dK {H H' : Hp} {a c : Addr} {xs} (s : SameBut c H H') (hc : PoolAt H c) (h : H a = some (.dK xs)) : H' a = some (.dK xs) := pool_stay hc s _ _ h (fun ys e => nomatch e)
theorem DA.new {H : Hp} {p : Addr} {u : HO} {v : V} {d : PyData} (n : H p = none) (h : DA H v d) : DA (upd H p u) v d := h.same (same_upd n)
theorem DA.same' {H H' : Hp} {v : V} {d : PyData} (s : L2.Same H H') (h : DA H v d) : DA H' v d := h.same s
theorem DA.but' {H H' : Hp} {c : Addr} {v : V} {d : PyData} (s : SameBut c H H') (hc : PoolAt H c) (h : DA H v d) : DA H' v d := h.but hc s
theorem hp_same {H H' : Hp} {a : Addr} {o : HO} (s : L2.Same H H') (h : H a = some o) : H' a = some o := s _ _ h
theorem but_lst' {H H' : Hp} {a c : Addr} {xs : List V} (s : SameBut c H H') (hc : PoolAt H c) (n : npool xs = true) (h : H a = some (.lst xs)) : H' a = some (.lst xs) := but_lst s hc h n
theorem PoolAt.new {H : Hp} {p c : Addr} {u : HO} (n : H p = none) (h : PoolAt H c) : PoolAt (upd H p u) c := h.same (same_upd n)
theorem PoolAt.same' {H H' : Hp} {c : Addr} (s : L2.Same H H') (h : PoolAt H c) : PoolAt H' c := h.same s
theorem sm_new {H H1 : Hp} {p : Addr} {u : HO} (n : H1 p = none) (h : L2.Same H H1) : L2.Same H (upd H1 p u) := L2.Same.trans h (same_upd n)
theorem sm_same {H H1 H2 : Hp} (s : L2.Same H1 H2) (h : L2.Same H H1) : L2.Same H H2 := L2.Same.trans h s
theorem sb_new {H H1 : Hp} {p c : Addr} {u : HO} (n : H1 p = none) (h : SameBut c H H1) : SameBut c H (upd H1 p u) := h.new n
theorem sb_same {H H1 H2 : Hp} {c : Addr} (s : L2.Same H1 H2) (h : SameBut c H H1) : SameBut c H H2 := h.trans (.of s)
theorem sb_but {H H1 H2 : Hp} {c : Addr} (s : SameBut c H1 H2) (h : SameBut c H H1) : SameBut c H H2 := h.trans s
theorem ans {Q : VK} {H H' : Hp} {a b : Bool} (q : ∀ H', L2.Same H H' → Q (.bl b) H') (e : a = b) (s : L2.Same H H') : Q (.bl a) H' := e ▸ q _ s
theorem at1 (x y : V) (r : List V) : atI (x :: y :: r) 1 = some y := atI_nat (j := 1) rfl
theorem len_line {α : Type} (xs : List α) (h : few 1000 xs = true) : xs.length ≤ sizeLine := Nat.le_trans (few_le h) (by decide)
theorem len_line2 {α β : Type} (xs : List α) (ys : List β) (h : few 1000 xs = true) (h2 : few 1000 ys = true) : xs.length + ys.length ≤ sizeLine := Nat.le_trans (Nat.add_le_add (few_le h) (few_le h2)) (by decide)
end Cb

end

section
set_option maxRecDepth 100000
set_option maxHeartbeats 4000000
namespace Cb
open PySem PySem.Spec PyProof.Rows L2
section
variable {K : PySem.W.Frag} {a D : Addr} {xs : List V} {jx : Nat} {te : TE} {vs : List Nat} {σ : L2.St} {H1 : Hp} {Qd : Hp → Prop}
/-- what has been made so far -/
def MadeV (H1 : Hp) (D : Addr) (G : Nat → V → Prop) (i : Nat) (H : Hp) : Prop := L2.Same H1 H ∧ ∃ ys : List V, H D = some (.lst ys) ∧ ys.length = i ∧ ∀ j y, ys[j]? = some y → G j y
theorem MadeV.zero {G : Nat → V → Prop} (hD : H1 D = none) : MadeV H1 D G 0 (upd H1 D (.lst [])) := ⟨same_upd hD, [], upd_same, rfl, fun j y e => by simp at e⟩
theorem MadeV.more {G : Nat → V → Prop} {H H4 : Hp} {i : Nat} {y : V} (hD : H1 D = none) (hi : i < 1000) (m : MadeV H1 D G i H) (s : L2.Same H H4) (hy : G i y) : ∃ acc, H4 D = some (.lst acc) ∧ acc.length < sizeLine ∧ MadeV H1 D G (i + 1) (upd H4 D (.lst (acc ++ [y]))) := by
  obtain ⟨sm, ys, hd, hl, hg⟩ := m
  refine ⟨ys, s _ _ hd, by rw [hl]; exact Nat.lt_of_lt_of_le hi (by decide), fun b o e => ?_, ys ++ [y], upd_same, by rw [List.length_append, hl]; rfl, fun j z e => ?_⟩
  · rw [upd_ne (ne_of_none e hD)]
    exact s _ _ (sm _ _ e)
  · by_cases c : j < ys.length
    · rw [List.getElem?_append_left c] at e
      exact hg j z e
    · rw [List.getElem?_append_right (by omega)] at e
      have hj : j - ys.length = 0 := by
        rcases Nat.eq_zero_or_pos (j - ys.length) with z | z
        · exact z
        · rw [List.getElem?_eq_none (by simp only [List.length_singleton]; exact z)] at e
          cases e
      rw [hj] at e
      cases e
      have : j = i := by omega
      subst this
      exact hy
theorem lc_mapT (G : Nat → V → Prop) (hq : SqT K H1 a xs) (hD : H1 D = none) (hn : xs.length ≤ 1000) (hw : ∀ x, wipe ((wipe σ vs).set jx (some x)) vs = wipe σ vs)
    (turn : ∀ (i : Nat) (x : V) (H : Hp) (R : V → Hp → Prop), xs[i]? = some x → L2.Same H1 H → (∀ y H4, L2.Same H H4 → G i y → R y H4) →
      te ((wipe σ vs).set jx (some x)) H R)
    (done : ∀ H ys, L2.Same H1 H → H D = some (.lst ys) → ys.length = xs.length → (∀ j y, ys[j]? = some y → G j y) → Qd H) :
    ∃ W : Nat → Nat → Hp → Prop, (∃ m, W 0 m (upd H1 D (.lst []))) ∧ ∀ i m H, W i m H →
      ((Itt K a).stop i H ∧ Qd H) ∨ ((Itt K a).go i H ∧ ∃ Nx : Hp → Prop, (∀ H', Nx H' → ∃ m', m' < m ∧ W (i + 1) m' H') ∧ ∀ x H', (Itt K a).yld i H x H' → gName jx x (wipe σ vs) H' fun σ2 H2 => wipe σ2 vs = wipe σ vs ∧ tYes σ2 H2 fun b H3 =>
        if b = true then te σ2 H3 fun y H4 => ∃ acc, H4 D = some (.lst acc) ∧ acc.length < sizeLine ∧ Nx (upd H4 D (.lst (acc ++ [y]))) else Nx H3) := by
  refine lc_tup (xs := xs) (MadeV H1 D G) (.zero hD) (fun i H _ h => sqt_same h.1 hq) (fun i x H hx hI => ?_) (fun H hI => ?_)
  · have hi : i < xs.length := (List.getElem?_eq_some_iff.mp hx).1
    exact ⟨hw x, turn i x H (fun y H4 => ∃ acc, H4 D = some (.lst acc) ∧ acc.length < sizeLine ∧ MadeV H1 D G (i + 1) (upd H4 D (.lst (acc ++ [y])))) hx hI.1 (fun y H4 s hy => hI.more hD (by omega) s hy)⟩
  · obtain ⟨sm, ys, hd, hl, hg⟩ := hI
    exact done H ys sm hd hl hg
theorem lc_mapL (G : Nat → V → Prop) (hq : ∀ H, L2.Same H1 H → SqL K H a xs) (hD : H1 D = none) (hn : xs.length ≤ 1000) (hw : ∀ x, wipe ((wipe σ vs).set jx (some x)) vs = wipe σ vs)
    (turn : ∀ (i : Nat) (x : V) (H : Hp) (R : V → Hp → Prop), xs[i]? = some x → L2.Same H1 H → (∀ y H4, L2.Same H H4 → G i y → R y H4) →
      te ((wipe σ vs).set jx (some x)) H R)
    (done : ∀ H ys, L2.Same H1 H → H D = some (.lst ys) → ys.length = xs.length → (∀ j y, ys[j]? = some y → G j y) → Qd H) :
    ∃ W : Nat → Nat → Hp → Prop, (∃ m, W 0 m (upd H1 D (.lst []))) ∧ ∀ i m H, W i m H →
      ((Itl K a).stop i H ∧ Qd H) ∨ ((Itl K a).go i H ∧ ∃ Nx : Hp → Prop, (∀ H', Nx H' → ∃ m', m' < m ∧ W (i + 1) m' H') ∧ ∀ x H', (Itl K a).yld i H x H' → gName jx x (wipe σ vs) H' fun σ2 H2 => wipe σ2 vs = wipe σ vs ∧ tYes σ2 H2 fun b H3 =>
        if b = true then te σ2 H3 fun y H4 => ∃ acc, H4 D = some (.lst acc) ∧ acc.length < sizeLine ∧ Nx (upd H4 D (.lst (acc ++ [y]))) else Nx H3) := by
  refine lc_list (xs := xs) (MadeV H1 D G) (.zero hD) (fun i H _ h => hq H h.1) (fun i x H hx hI => ?_) (fun H hI => ?_)
  · have hi : i < xs.length := (List.getElem?_eq_some_iff.mp hx).1
    exact ⟨hw x, turn i x H (fun y H4 => ∃ acc, H4 D = some (.lst acc) ∧ acc.length < sizeLine ∧ MadeV H1 D G (i + 1) (upd H4 D (.lst (acc ++ [y])))) hx hI.1 (fun y H4 s hy => hI.more hD (by omega) s hy)⟩
  · obtain ⟨sm, ys, hd, hl, hg⟩ := hI
    exact done H ys sm hd hl hg
end
/-- the truths of a list of truths -/
theorem bools_of {ys : List V} {n : Nat} {f : Nat → Bool} (hl : ys.length = n) (h : ∀ j y, ys[j]? = some y → y = V.bl (f j)) : ys = ((List.range n).map f).map V.bl := by
  apply List.ext_getElem?
  intro j
  by_cases c : j < n
  · have e : ys[j]? = some ys[j] := List.getElem?_eq_getElem (by omega)
    rw [e, h j _ e]
    simp [c]
  · rw [List.getElem?_eq_none (by omega), List.getElem?_eq_none (by simp; omega)]
end Cb

end

section
set_option maxRecDepth 100000
set_option maxHeartbeats 4000000
namespace Cb
open PySem PySem.Spec PyProof.Rows L2
theorem Fit.tup' {b : Bool} {n m : Nat} {ds : List PyData} (h : FitAll b n m ds) : Fit b (n + 4) (m + 1) (.tuple ds) := Fit.tup h (Nat.le_refl _)
theorem Fit.lst' {n m : Nat} {ds : List PyData} (h : FitAll false n m ds) : Fit false (n + 4) (m + 1) (.list ds) := Fit.lst h (Nat.le_refl _)
theorem FitAll.cons' {b : Bool} {n k m : Nat} {d : PyData} {ds : List PyData} (h : Fit b n m d) (t : FitAll b k m ds) : FitAll b (n + 2 + k) m (d :: ds) := .cons h t (Nat.le_refl _)
theorem FitAll.nil' {b : Bool} {m : Nat} : FitAll b 0 m [] := .nil
theorem Fit.up {b : Bool} {n m j : Nat} {d : PyData} (h : Fit b n m d) (e2 : m ≤ j) : Fit b n j d := h.mono (Nat.le_refl _) e2
theorem Fit.int' {b : Bool} {m : Nat} {i : Int} (hi : i.natAbs < 2 ^ 40) : Fit b 42 m (.int i) := Fit.int hi (Nat.le_refl _)
theorem Fit.bl' {b x : Bool} {m : Nat} : Fit b 5 m (.bool x) := Fit.bl (Nat.le_refl _)
theorem Fit.non' {b : Bool} {m : Nat} : Fit b 4 m .none := Fit.non (Nat.le_refl _)
/-- a datum of at most n signs and m levels stands at v; b: without lists, else without dicts -/
def Dat (b : Bool) (n m : Nat) (H : Hp) (v : V) : Prop := ∃ d, DA H v d ∧ Fit b n m d
theorem Dat.same' {b : Bool} {n m : Nat} {H H' : Hp} {v : V} (s : L2.Same H H') (h : Dat b n m H v) : Dat b n m H' v := by
  obtain ⟨d, h1, h2⟩ := h
  exact ⟨d, h1.same s, h2⟩
theorem Dat.new {b : Bool} {n m : Nat} {H : Hp} {p : Addr} {u : HO} {v : V} (e : H p = none) (h : Dat b n m H v) : Dat b n m (upd H p u) v := Dat.same' (same_upd e) h
theorem Dat.but' {b : Bool} {n m : Nat} {H H' : Hp} {c : Addr} {v : V} (s : SameBut c H H') (hc : PoolAt H c) (h : Dat b n m H v) : Dat b n m H' v := by
  obtain ⟨d, h1, h2⟩ := h
  exact ⟨d, h1.but hc s, h2⟩
theorem Dat.mono {b : Bool} {n m k j : Nat} {H : Hp} {v : V} (h : Dat b n m H v) (e : n ≤ k) (e2 : m ≤ j) : Dat b k j H v := by
  obtain ⟨d, h1, h2⟩ := h
  exact ⟨d, h1, h2.mono e e2⟩
/-- many of them -/
def DatL (b : Bool) (n m : Nat) (H : Hp) (vs : List V) : Prop := ∃ ds, DAll H vs ds ∧ FitAll b n m ds
theorem DatL.nil {b : Bool} {m : Nat} {H : Hp} : DatL b 0 m H [] := ⟨[], .nil, .nil⟩
theorem DatL.cons {b : Bool} {n k m : Nat} {H : Hp} {v : V} {vs : List V} (h : Dat b n m H v) (t : DatL b k m H vs) : DatL b (n + 2 + k) m H (v :: vs) := by
  obtain ⟨d, h1, h2⟩ := h
  obtain ⟨ds, t1, t2⟩ := t
  exact ⟨d :: ds, .cons h1 t1, .cons' h2 t2⟩
theorem Dat.tup {b : Bool} {n m : Nat} {H : Hp} {a : Addr} {vs : List V} (e : H a = some (.tup vs)) (h : DatL b n m H vs) : Dat b (n + 4) (m + 1) H (.ref a) := by
  obtain ⟨ds, h1, h2⟩ := h
  exact ⟨.tuple ds, .tup e h1, .tup' h2⟩
theorem Dat.lst {n m : Nat} {H : Hp} {a : Addr} {vs : List V} (e : H a = some (.lst vs)) (np : npool vs = true) (hs : few 3 vs = true) (h : DatL false n m H vs) : Dat false (n + 4) (m + 1) H (.ref a) := by
  obtain ⟨ds, h1, h2⟩ := h
  exact ⟨.list ds, .lst e np hs h1, .lst' h2⟩
theorem Dat.dct {m : Nat} {H : Hp} {a : Addr} (e : H a = some (.dK [])) : Dat true 2 (m + 1) H (.ref a) := ⟨_, .dct e, .dct (Nat.le_refl _) (Nat.le_add_left _ _)⟩
theorem Dat.non {b : Bool} {m : Nat} {H : Hp} : Dat b 4 m H .non := ⟨_, .non, .non'⟩
theorem Dat.bl {b x : Bool} {m : Nat} {H : Hp} : Dat b 5 m H (.bl x) := ⟨_, .bl x, .bl'⟩
theorem Dat.int {b : Bool} {m : Nat} {H : Hp} {i : Int} (hi : i.natAbs < 2 ^ 40) : Dat b 42 m H (.int i) := ⟨_, .int i, .int' hi⟩
theorem Dat.str {b : Bool} {m : Nat} {H : Hp} {x : Str} (hx : (PyData.str x).shown.length ≤ 20) : Dat b 20 m H (.str x) := ⟨_, .str x, .str hx⟩
theorem Dat.up {b : Bool} {n m j : Nat} {H : Hp} {v : V} (e : m ≤ j) (h : Dat b n m H v) : Dat b n j H v := h.mono (Nat.le_refl _) e
theorem Dat.up' {b : Bool} {n m j : Nat} {H : Hp} {v : V} (h : Dat b n m H v) (e : m ≤ j) : Dat b n j H v := h.up e
/-! ### between two statements -/
theorem cut {G : Hp → Prop} {H0 : Hp} (P : Hp → Prop) (h0 : P H0) (h : ∀ H, P H → G H) : G H0 := h _ h0
theorem seq_hide {t u : TS} {D : Ends} {σ : L2.St} {H : Hp} (h : ∀ U : L2.St → Hp → Prop, (∀ σ H, u D σ H → U σ H) → t { D with nx := U } σ H) : tSeq t u D σ H := h (u D) (fun _ _ z => z)
theorem seq_then {t u : TS} {D : Ends} {σ : L2.St} {H : Hp} (R : L2.St → Hp → Prop) (h2 : ∀ σ' H', R σ' H' → u D σ' H') (h1 : ∀ U : L2.St → Hp → Prop, (∀ σ' H', R σ' H' → U σ' H') → t { D with nx := U } σ H) : tSeq t u D σ H := h1 (u D) h2
theorem next_mk {D : Ends} {σ : L2.St} {H : Hp} (h : D.nx σ H) : tNext D σ H := h
theorem nx_hide {t : TS} {D : Ends} {σ : L2.St} {H : Hp} (h : ∀ U : L2.St → Hp → Prop, (∀ σ H, D.nx σ H → U σ H) → t { D with nx := U } σ H) : t D σ H := h D.nx (fun _ _ z => z)
theorem unitsM {k : Nat} {A : Around} (r : Room k A) (h : 14 ≤ k) : A.units + (400 + 1) < cLine := by
  have := r.un
  omega
/-- a def called by keywords -/
theorem givesK_fun {P : Program} {w : World} {K : PySem.W.Frag} {mg : Str → Option Value} {base : Heap} {k : Nat} {x : Str} {st : Stmt} {N ps ks : List Str} {sp : Sp} (T : Stands K mg x st) (S : FnScope N ps (defScope st))
    (hb : ∀ (kV doc pm : Value) (an : Option Addr) (cdv ct : Value) (us ws : List Value), ws.length = ks.length → us.length + ws.length = ps.length → bindArgs (PySem.W.fnOf x x (defArgs st) (defBody st) (defScope st) .none kV doc pm an cdv ct) ⟨us, ks.zip ws⟩ = pure (ps.zip (us ++ ws)))
    (len : ∀ vs H Q E, sp vs H Q E → vs.length = ps.length)
    (hbody : ∀ (f : Addr) (cdv : Value) (A : Around) (outer : List Env) (s : Shared) (H : Hp) (vs : List V) (Q : VK) (E : XK), Room k (A.deeper (envOfC x (defScope st) s.heap.objs.size f cdv)) → sp vs H Q E →
      ∃ t, PSs (cxOf CX0 P w K mg base N x (defScope st) f cdv A outer s H E).nox (defBody st) t ∧ t { nx := fun _ H' => Q .non H', rt := Q } (start N vs) H) :
    GivesK P w K mg base CX0 (k + 1) x ks sp := by
  obtain ⟨f, fd, hm, F⟩ := T
  refine givesK_of hm F.kp (F.ok S len (hbody f)) ?_
  obtain ⟨oc, od, kV, doc, pm, an, cdv, ct, osl, rfl, lk, hcd⟩ := F.ex
  exact hb kV doc pm an cdv ct
/-! ### patterns as data -/
theorem name_short (o : Op) : (PyData.str o.name).shown.length ≤ 20 := by cases o <;> decide +kernel
theorem wd_small {i : Int} (h : Wd i) : i.natAbs < 2 ^ 40 := by unfold Wd at h; omega
theorem PatAt.dat {b : Bool} {H : Hp} {m : Nat} (hm : m ≤ 1000) : ∀ {p : Pat} {v : V}, PatAt H v p → p.ok m → Dat b (100 * 2 ^ p.depth - 40) p.depth H v
  | .word i, v, ⟨a, e, h⟩, ho => by
    subst e
    exact (Dat.tup h (.cons (Dat.str (by decide +kernel)) (.cons (Dat.int (wd_small ho)) (DatL.nil (m := 0))))).mono (by show _ ≤ 100 * 2 ^ 1 - 40; decide) (Nat.le_refl _)
  | .unk n, v, ⟨a, e, h⟩, ho => by
    subst e
    have : n < m := ho
    exact (Dat.tup h (.cons (Dat.str (by decide +kernel)) (.cons (Dat.int (by omega)) (DatL.nil (m := 0))))).mono (by show _ ≤ 100 * 2 ^ 1 - 40; decide) (Nat.le_refl _)
  | .un o p, v, ⟨a, x, e, h, hp⟩, ho => by
    subst e
    refine (Dat.tup h (.cons (Dat.str (name_short o)) (.cons (PatAt.dat hm hp ho.2) DatL.nil))).mono ?_ (Nat.le_refl _)
    show _ ≤ 100 * 2 ^ (p.depth + 1) - 40
    have h2 : 1 ≤ 2 ^ p.depth := Nat.one_le_two_pow
    rw [Nat.pow_succ]
    omega
  | .bin o p q, v, ⟨a, x, y, e, h, hp, hq⟩, ho => by
    subst e
    have h1 : 100 * 2 ^ p.depth - 40 ≤ 100 * 2 ^ max p.depth q.depth - 40 := Nat.sub_le_sub_right (Nat.mul_le_mul_left _ (Nat.pow_le_pow_right (by decide) (Nat.le_max_left _ _))) _
    have h3 : 100 * 2 ^ q.depth - 40 ≤ 100 * 2 ^ max p.depth q.depth - 40 := Nat.sub_le_sub_right (Nat.mul_le_mul_left _ (Nat.pow_le_pow_right (by decide) (Nat.le_max_right _ _))) _
    have h2 : 1 ≤ 2 ^ max p.depth q.depth := Nat.one_le_two_pow
    refine (Dat.tup h (.cons (Dat.str (name_short o)) (.cons ((PatAt.dat hm hp ho.2.1).mono h1 (Nat.le_max_left _ _)) (.cons ((PatAt.dat hm hq ho.2.2).mono h3 (Nat.le_max_right _ _)) DatL.nil)))).mono ?_ (Nat.le_refl _)
    show _ ≤ 100 * 2 ^ (max p.depth q.depth + 1) - 40
    rw [Nat.pow_succ]
    omega
theorem PatAt.same' {H H' : Hp} {v : V} {p : Pat} (s : L2.Same H H') (h : PatAt H v p) : PatAt H' v p := h.same s
theorem PatAt.new {H : Hp} {q : Addr} {u : HO} {v : V} {p : Pat} (n : H q = none) (h : PatAt H v p) : PatAt (upd H q u) v p := h.same (same_upd n)
theorem PatAt.but' {H H' : Hp} {c : Addr} {v : V} {p : Pat} (s : SameBut c H H') (hc : PoolAt H c) (h : PatAt H v p) : PatAt H' v p := PatAt.but hc s h
theorem DatL.same' {b : Bool} {n m : Nat} {H H' : Hp} {v : List V} (s : L2.Same H H') (h : DatL b n m H v) : DatL b n m H' v := by
  obtain ⟨d, h1, h2⟩ := h
  exact ⟨d, h1.same s, h2⟩
theorem DatL.new {b : Bool} {n m : Nat} {H : Hp} {p : Addr} {u : HO} {v : List V} (e : H p = none) (h : DatL b n m H v) : DatL b n m (upd H p u) v := DatL.same' (same_upd e) h
theorem DatL.but' {b : Bool} {n m : Nat} {H H' : Hp} {c : Addr} {v : List V} (s : SameBut c H H') (hc : PoolAt H c) (h : DatL b n m H v) : DatL b n m H' v := by
  obtain ⟨d, h1, h2⟩ := h
  exact ⟨d, DAll.stay (pool_stay hc s) _ _ h1, h2⟩
theorem FitAll.mono {b : Bool} {n m k j : Nat} {d : List PyData} (h : FitAll b n m d) (e : n ≤ k) (e2 : m ≤ j) : FitAll b k j d := ⟨h.sh, Nat.le_trans h.len e, Nat.le_trans h.dep e2, h.kd⟩
theorem DatL.mono {b : Bool} {n m k j : Nat} {H : Hp} {v : List V} (h : DatL b n m H v) (e : n ≤ k) (e2 : m ≤ j) : DatL b k j H v := by
  obtain ⟨d, h1, h2⟩ := h
  exact ⟨d, h1, h2.mono e e2⟩
theorem DatL.up' {b : Bool} {n m j : Nat} {H : Hp} {v : List V} (h : DatL b n m H v) (e : m ≤ j) : DatL b n j H v := h.mono (Nat.le_refl _) e
/-- every item of a list is a datum that fits -/
def AllD (n m : Nat) (H : Hp) (xs : List V) : Prop := ∀ x ∈ xs, ∃ b, Dat b n m H x
theorem AllD.nil {n m : Nat} {H : Hp} : AllD n m H [] := fun _ h => nomatch h
theorem AllD.cons {b : Bool} {n k m : Nat} {H : Hp} {x : V} {xs : List V} (h : Dat b k m H x) (e : k ≤ n) (t : AllD n m H xs) : AllD n m H (x :: xs) := fun y hy => by
  rcases List.mem_cons.mp hy with z | z
  · rw [z]
    exact ⟨b, h.mono e (Nat.le_refl _)⟩
  · exact t y z
theorem AllD.app {n m : Nat} {H : Hp} {xs ys : List V} (h : AllD n m H xs) (t : AllD n m H ys) : AllD n m H (xs ++ ys) := fun y hy => by
  rcases List.mem_append.mp hy with z | z
  · exact h y z
  · exact t y z
theorem AllD.same' {n m : Nat} {H H' : Hp} {v : List V} (s : L2.Same H H') (h : AllD n m H v) : AllD n m H' v := fun y hy => by
  obtain ⟨b, z⟩ := h y hy
  exact ⟨b, z.same' s⟩
theorem AllD.new {n m : Nat} {H : Hp} {p : Addr} {u : HO} {v : List V} (e : H p = none) (h : AllD n m H v) : AllD n m (upd H p u) v := AllD.same' (same_upd e) h
theorem AllD.but' {n m : Nat} {H H' : Hp} {c : Addr} {v : List V} (s : SameBut c H H') (hc : PoolAt H c) (h : AllD n m H v) : AllD n m H' v := fun y hy => by
  obtain ⟨b, z⟩ := h y hy
  exact ⟨b, z.but' s hc⟩
/-- an item at a drawn place -/
theorem at_drawn {xs : List V} {r : Int} (h0 : 0 ≤ r) (h1 : r < (xs.length : Int)) : ∃ x, x ∈ xs ∧ atI xs r = some x := by
  have hk : r.toNat < xs.length := by omega
  have er : r = ((r.toNat : Nat) : Int) := by omega
  have q : atI xs ((r.toNat : Nat) : Int) = some xs[r.toNat] := atI_nat (List.getElem?_eq_getElem hk)
  rw [← er] at q
  exact ⟨_, List.getElem_mem hk, q⟩
theorem PatAt.parts {H : Hp} {m : Nat} (hm : m ≤ 1000) {p : Pat} {v : V} (h : PatAt H v p) (ho : p.ok m) : ∃ a xs, v = .ref a ∧ H a = some (.tup xs) ∧ npool xs = true ∧ xs.length ≤ 3 ∧ ∀ b, DatL b (100 * 2 ^ p.depth) p.depth H xs := by
  cases p with
  | word i =>
    obtain ⟨a, e, h⟩ := h
    refine ⟨a, _, e, h, rfl, by show 2 ≤ 3; decide, fun b => (DatL.cons (Dat.str (by decide +kernel)) (.cons (Dat.int (wd_small ho)) (DatL.nil (m := 1)))).mono (by show _ ≤ 100 * 2 ^ 1; decide) (Nat.le_refl _)⟩
  | unk n =>
    obtain ⟨a, e, h⟩ := h
    have : n < m := ho
    refine ⟨a, _, e, h, rfl, by show 2 ≤ 3; decide, fun b => (DatL.cons (Dat.str (by decide +kernel)) (.cons (Dat.int (by omega)) (DatL.nil (m := 1)))).mono (by show _ ≤ 100 * 2 ^ 1; decide) (Nat.le_refl _)⟩
  | un o p =>
    obtain ⟨a, x, e, h, hp⟩ := h
    refine ⟨a, _, e, h, rfl, by show 2 ≤ 3; decide, fun b => (DatL.cons (Dat.str (name_short o)) (.cons (PatAt.dat hm hp ho.2) DatL.nil)).mono ?_ (Nat.le_succ _)⟩
    show _ ≤ 100 * 2 ^ (p.depth + 1)
    have h2 : 1 ≤ 2 ^ p.depth := Nat.one_le_two_pow
    rw [Nat.pow_succ]
    omega
  | bin o p q =>
    obtain ⟨a, x, y, e, h, hp, hq⟩ := h
    have h1 : 100 * 2 ^ p.depth ≤ 100 * 2 ^ max p.depth q.depth := Nat.mul_le_mul_left _ (Nat.pow_le_pow_right (by decide) (Nat.le_max_left _ _))
    have h3 : 100 * 2 ^ q.depth ≤ 100 * 2 ^ max p.depth q.depth := Nat.mul_le_mul_left _ (Nat.pow_le_pow_right (by decide) (Nat.le_max_right _ _))
    have h2 : 1 ≤ 2 ^ p.depth := Nat.one_le_two_pow
    have h4 : 1 ≤ 2 ^ q.depth := Nat.one_le_two_pow
    refine ⟨a, _, e, h, rfl, by show 3 ≤ 3; decide, fun b => (DatL.cons (Dat.str (name_short o)) (.cons ((PatAt.dat hm hp ho.2.1).up (Nat.le_max_left _ _)) (.cons ((PatAt.dat hm hq ho.2.2).up (Nat.le_max_right _ _)) DatL.nil))).mono ?_ (Nat.le_succ _)⟩
    show _ ≤ 100 * 2 ^ (max p.depth q.depth + 1)
    rw [Nat.pow_succ]
    omega
/-- xs[i] at a place that is not known: any item -/
def rIxAny (K : PySem.W.Frag) : R2 := fun x y H Q => ∃ p xs i, x = .ref p ∧ y = .int i ∧ SqL K H p xs ∧ 0 ≤ i ∧ i < (xs.length : Int) ∧ ∀ v, v ∈ xs → Q v H
theorem ix_any {X : Cx} : IxR X (rIxAny X.K) := by
  intro value slice pins s σ H x y v u Q I rx ry h hs
  obtain ⟨p, xs, i, e1, e2, hq, h0, h1, q⟩ := h
  obtain ⟨z, hz, ez⟩ := at_drawn h0 h1
  exact ix_list value slice pins s σ H x y v u Q I rx ry ⟨p, xs, i, z, e1, e2, hq, ez, q z hz⟩ hs
theorem npool_long {xs : List V} (h : 3 < xs.length) : npool xs = true := by
  match xs, h with
  | [], h => exact absurd h (by decide)
  | [_], h => exact absurd h (by simp)
  | [_, _], h => exact absurd h (by simp)
  | [_, _, _], h => exact absurd h (by simp)
  | _ :: _ :: _ :: _ :: _, _ =>
    unfold npool
    split
    · rename_i e
      cases e
    · rfl
theorem npool_app {xs ys : List V} (h : 3 < xs.length) : npool (xs ++ ys) = true := npool_long (by rw [List.length_append]; omega)
theorem Dat.leaf {b : Bool} {m k : Nat} {H : Hp} {v : V} {p : Pat} (h : PatAt H v p) (ho : p.ok k) (hd : p.depth = 1) (hk : k ≤ 1000) (e : 1 ≤ m) : Dat b 160 m H v := (PatAt.dat hk h ho).mono (by rw [hd]; decide) (by omega)
/-- of both kinds -/
def DatB (n m : Nat) (H : Hp) (xs : List V) : Prop := ∀ b, DatL b n m H xs
theorem DatB.same' {n m : Nat} {H H' : Hp} {v : List V} (s : L2.Same H H') (h : DatB n m H v) : DatB n m H' v := fun b => (h b).same' s
theorem DatB.new {n m : Nat} {H : Hp} {p : Addr} {u : HO} {v : List V} (e : H p = none) (h : DatB n m H v) : DatB n m (upd H p u) v := fun b => (h b).new e
theorem DatB.but' {n m : Nat} {H H' : Hp} {c : Addr} {v : List V} (s : SameBut c H H') (hc : PoolAt H c) (h : DatB n m H v) : DatB n m H' v := fun b => (h b).but' s hc
def DatE (n m : Nat) (H : Hp) (v : V) : Prop := ∀ b, Dat b n m H v
theorem Dat.ofE {b : Bool} {n m j : Nat} {H : Hp} {v : V} (h : DatE n m H v) (e : m ≤ j) : Dat b n j H v := (h b).up e
theorem Dat.long {b : Bool} {n m : Nat} {H : Hp} {l : Addr} {ys : List V} {o' : HO} {v : V} (hl : H l = some (.lst ys)) (hn : 3 < ys.length) (h : Dat b n m H v) : Dat b n m (upd H l o') v := by
  obtain ⟨d, h1, h2⟩ := h
  exact ⟨d, h1.long hl hn, h2⟩
theorem AllD.long {n m : Nat} {H : Hp} {l : Addr} {ys : List V} {o' : HO} {v : List V} (hl : H l = some (.lst ys)) (hn : 3 < ys.length) (h : AllD n m H v) : AllD n m (upd H l o') v := fun y hy => by
  obtain ⟨b, z⟩ := h y hy
  exact ⟨b, z.long hl hn⟩
/-- xs[i], an item that fits as all do -/
def rIxDat (K : PySem.W.Frag) : R2 := fun x y H Q => ∃ p xs i n m, x = .ref p ∧ y = .int i ∧ SqL K H p xs ∧ 0 ≤ i ∧ i < (xs.length : Int) ∧ AllD n m H xs ∧ ∀ v b, Dat b n m H v → Q v H
theorem ix_dat {X : Cx} : IxR X (rIxDat X.K) := by
  intro value slice pins s σ H x y v u Q I rx ry h hs
  obtain ⟨p, xs, i, n, m, e1, e2, hq, h0, h1, ha, q⟩ := h
  obtain ⟨z, hz, ez⟩ := at_drawn h0 h1
  obtain ⟨b, hb⟩ := ha z hz
  exact ix_list value slice pins s σ H x y v u Q I rx ry ⟨p, xs, i, z, e1, e2, hq, ez, q z b hb⟩ hs
/-- an item of a written list of numbers, by bounds -/
def rIxLow (K : PySem.W.Frag) (xs : List V) (n : Int) (lo hi : Int) : R2 := fun x y H Q => ∃ p i, x = .ref p ∧ y = .int i ∧ SqL K H p xs ∧ 0 ≤ i ∧ i < n ∧ ∀ v, lo ≤ v → v ≤ hi → Q (.int v) H
theorem ix_low {X : Cx} (xs : List V) (n : Int) (lo hi : Int) (ns : List Int) (hx : ns.map V.int = xs) (hn : (ns.length : Int) = n) (hb : ∀ v ∈ ns, lo ≤ v ∧ v ≤ hi) : IxR X (rIxLow X.K xs n lo hi) := by
  intro value slice pins s σ H x y v u Q I rx ry h hs
  obtain ⟨p, i, e1, e2, hq, h0, h1, q⟩ := h
  obtain ⟨z, hz, hP⟩ := at_ints ns hb h0 (by omega)
  rw [hx] at hz
  exact ix_list value slice pins s σ H x y v u Q I rx ry ⟨p, _, i, _, e1, e2, hq, hz, q z hP.1 hP.2⟩ hs
theorem AllD.mono {n m k j : Nat} {H : Hp} {xs : List V} (h : AllD n m H xs) (e : n ≤ k) (e2 : m ≤ j) : AllD k j H xs := fun y hy => by
  obtain ⟨b, z⟩ := h y hy
  exact ⟨b, z.mono e e2⟩
theorem sb_free {H H1 : Hp} {c p : Addr} (s : SameBut c H H1) (hc : PoolAt H1 c) (n : H1 p = none) : H p = none := by
  cases e : H p with
  | none => rfl
  | some o =>
    have h : p ≠ c := (hc.ne n).symm
    rw [s.at e h] at n
    cases n
theorem sb_upd {H H1 : Hp} {c l : Addr} {o : HO} (n : H l = none) (s : SameBut c H H1) : SameBut c H (upd H1 l o) := fun b x hb e => by
  rw [upd_ne (ne_of_none e n)]
  exact s.at e hb
theorem PoolAt.over {H : Hp} {c l : Addr} {ys : List V} {o : HO} (hl : H l = some (.lst ys)) (hn : npool ys = true) (h : PoolAt H c) : PoolAt (upd H l o) c := by
  refine h.updne fun z => ?_
  obtain ⟨x, d, k, e2, _⟩ := h
  subst z
  rw [e2] at hl
  cases hl
  cases hn
end Cb

end

section
set_option maxRecDepth 100000
set_option maxHeartbeats 4000000
namespace Cb
open PySem PySem.Spec PyProof.Rows L2
def topS (i : Nat) : Stmt := PySem.Challenge.pw_codeback_k61_patterns_told.main.body.getD i (.Pass ⟨0, 0, 0, 0⟩)
abbrev s_is_integer : Stmt := topS 6
abbrev s_is_word : Stmt := topS 7
abbrev s_is_pattern_below : Stmt := topS 10
abbrev s_is_pattern : Stmt := topS 11
abbrev s_law_cell : Stmt := topS 13
abbrev s_law_pool : Stmt := topS 14
abbrev s_law_draw : Stmt := topS 15
abbrev s_law_figure : Stmt := topS 16
abbrev s_law_leaf_sketch : Stmt := topS 17
abbrev s_law_sketch : Stmt := topS 18
abbrev s_law_all_ways : Stmt := topS 19
abbrev s_law_depth : Stmt := topS 20
abbrev s_law_is_sketch : Stmt := topS 21
abbrev s_law_odd_part : Stmt := topS 22
abbrev s_law_bent : Stmt := topS 23
abbrev s_law_told_right : Stmt := topS 24
abbrev s_law_tower : Stmt := topS 25
abbrev s_law_right : Stmt := topS 26
abbrev s_law : Stmt := topS 27
theorem sc_is_integer : FnScope ["value"] ["value"] (defScope s_is_integer) := ⟨rfl, rfl, rfl, by decide +kernel, rfl, by decide +kernel, by decide +kernel⟩
theorem sc_is_word : FnScope ["value"] ["value"] (defScope s_is_word) := ⟨rfl, rfl, rfl, by decide +kernel, rfl, by decide +kernel, by decide +kernel⟩
theorem sc_is_pattern_below : FnScope ["value", "depth"] ["value", "depth"] (defScope s_is_pattern_below) := ⟨rfl, rfl, rfl, by decide +kernel, rfl, by decide +kernel, by decide +kernel⟩
theorem sc_is_pattern : FnScope ["value"] ["value"] (defScope s_is_pattern) := ⟨rfl, rfl, rfl, by decide +kernel, rfl, by decide +kernel, by decide +kernel⟩
theorem sc_law_cell : FnScope ["_law_script", "_law_k", "_law_state", "_law_figure_here"] ["_law_script", "_law_k"] (defScope s_law_cell) := ⟨rfl, rfl, rfl, by decide +kernel, rfl, by decide +kernel, by decide +kernel⟩
theorem sc_law_pool : FnScope ["_law_figure_here", "_law_digits"] ["_law_figure_here"] (defScope s_law_pool) := ⟨rfl, rfl, rfl, by decide +kernel, rfl, by decide +kernel, by decide +kernel⟩
theorem sc_law_draw : FnScope ["_law_pool_here", "_law_most", "_law_state", "_law_digit"] ["_law_pool_here", "_law_most"] (defScope s_law_draw) := ⟨rfl, rfl, rfl, by decide +kernel, rfl, by decide +kernel, by decide +kernel⟩
theorem sc_law_figure : FnScope ["_law_pool_here", "_law_some"] ["_law_pool_here"] (defScope s_law_figure) := ⟨rfl, rfl, rfl, by decide +kernel, rfl, by decide +kernel, by decide +kernel⟩
theorem sc_law_leaf_sketch : FnScope ["_law_pool_here", "_law_many"] ["_law_pool_here", "_law_many"] (defScope s_law_leaf_sketch) := ⟨rfl, rfl, rfl, by decide +kernel, rfl, by decide +kernel, by decide +kernel⟩
theorem sc_law_sketch : FnScope ["_law_pool_here", "_law_deep", "_law_many", "_law_ways", "_law_way", "_law_first"] ["_law_pool_here", "_law_deep", "_law_many", "_law_ways"] (defScope s_law_sketch) := ⟨rfl, rfl, rfl, by decide +kernel, rfl, by decide +kernel, by decide +kernel⟩
theorem sc_law_all_ways : FnScope [] [] (defScope s_law_all_ways) := ⟨rfl, rfl, rfl, by decide +kernel, rfl, by decide +kernel, by decide +kernel⟩
theorem sc_law_depth : FnScope ["_law_sketch_here", "_law_part"] ["_law_sketch_here"] (defScope s_law_depth) := ⟨rfl, rfl, rfl, by decide +kernel, rfl, by decide +kernel, by decide +kernel⟩
theorem sc_law_is_sketch : FnScope ["_law_thing", "_law_deep", "_law_part"] ["_law_thing", "_law_deep"] (defScope s_law_is_sketch) := ⟨rfl, rfl, rfl, by decide +kernel, rfl, by decide +kernel, by decide +kernel⟩
theorem sc_law_odd_part : FnScope ["_law_pool_here", "_law_part", "_law_some", "_law_good"] ["_law_pool_here", "_law_part"] (defScope s_law_odd_part) := ⟨rfl, rfl, rfl, by decide +kernel, rfl, by decide +kernel, by decide +kernel⟩
theorem sc_law_bent : FnScope ["_law_pool_here", "_law_sketch_here", "_law_at"] ["_law_pool_here", "_law_sketch_here"] (defScope s_law_bent) := ⟨rfl, rfl, rfl, by decide +kernel, rfl, by decide +kernel, by decide +kernel⟩
theorem sc_law_told_right : FnScope ["_law_thing", "_law_kept", "_law_due"] ["_law_thing"] (defScope s_law_told_right) := ⟨rfl, rfl, rfl, by decide +kernel, rfl, by decide +kernel, by decide +kernel⟩
theorem sc_law_tower : FnScope ["_law_pool_here", "_law_sketch_here", "_law_high", "_law_turn", "_law_way", "_law_some"] ["_law_pool_here", "_law_sketch_here", "_law_high"] (defScope s_law_tower) := ⟨rfl, rfl, rfl, by decide +kernel, rfl, by decide +kernel, by decide +kernel⟩
theorem sc_law_right : FnScope ["_law_pool_here", "_law_turn", "_law_sketch_here", "_law_some", "_law_room", "_law_thing"] ["_law_pool_here"] (defScope s_law_right) := ⟨rfl, rfl, rfl, by decide +kernel, rfl, by decide +kernel, by decide +kernel⟩
theorem sc_law : FnScope ["_law_script", "_law_deep", "_law_turn", "_law_fixed", "_law_thing", "_law_k"] ["_law_script"] (defScope s_law) := ⟨rfl, rfl, rfl, by decide +kernel, rfl, by decide +kernel, by decide +kernel⟩
/-- what the top has left -/
structure Txt (K : PySem.W.Frag) (mg : Str → Option Value) : Prop where
  d_is_integer : Stands K mg "is_integer" s_is_integer
  d_is_word : Stands K mg "is_word" s_is_word
  d_is_pattern_below : Stands K mg "is_pattern_below" s_is_pattern_below
  d_is_pattern : Stands K mg "is_pattern" s_is_pattern
  d_law_cell : Stands K mg "_law_cell" s_law_cell
  d_law_pool : Stands K mg "_law_pool" s_law_pool
  d_law_draw : Stands K mg "_law_draw" s_law_draw
  d_law_figure : Stands K mg "_law_figure" s_law_figure
  d_law_leaf_sketch : Stands K mg "_law_leaf_sketch" s_law_leaf_sketch
  d_law_sketch : Stands K mg "_law_sketch" s_law_sketch
  d_law_all_ways : Stands K mg "_law_all_ways" s_law_all_ways
  d_law_depth : Stands K mg "_law_depth" s_law_depth
  d_law_is_sketch : Stands K mg "_law_is_sketch" s_law_is_sketch
  d_law_odd_part : Stands K mg "_law_odd_part" s_law_odd_part
  d_law_bent : Stands K mg "_law_bent" s_law_bent
  d_law_told_right : Stands K mg "_law_told_right" s_law_told_right
  d_law_tower : Stands K mg "_law_tower" s_law_tower
  d_law_right : Stands K mg "_law_right" s_law_right
  d_law : Stands K mg "law" s_law
  n_isinstance : mg "isinstance" = none
  n_int : mg "int" = none
  n_bool : mg "bool" = none
  n_str : mg "str" = none
  n_tuple : mg "tuple" = none
  n_list : mg "list" = none
  n_abs : mg "abs" = none
  n_len : mg "len" = none
  n_divmod : mg "divmod" = none
  n_range : mg "range" = none
  n_all : mg "all" = none
  n_max : mg "max" = none
  n_min : mg "min" = none
  n_repr : mg "repr" = none
  c_MOST_DEPTH : GlobV mg "MOST_DEPTH" (.int (12))
  c_LEAST : GlobV mg "LEAST" (.int (-2147483648))
  c_GREATEST : GlobV mg "GREATEST" (.int (2147483647))
  c_SINGLE : GlobT K mg "SINGLE" [.str "neg", .str "not"]
  c_DOUBLE : GlobT K mg "DOUBLE" [.str "add", .str "sub", .str "mul", .str "div", .str "rem", .str "and", .str "or", .str "xor", .str "shl", .str "shr", .str "lt", .str "le", .str "gt", .str "ge", .str "eq", .str "ne"]
  c_MOST_UNKNOWN : GlobV mg "MOST_UNKNOWN" (.int (999))
section
variable {P : Program} {w : World} {K : PySem.W.Frag} {mg : Str → Option Value} {base : Heap}
theorem g_law_cell (T : Txt K mg)  : Gives P w K mg base CX0 1 "_law_cell" (spCell K) := by
  refine gives_fun T.d_law_cell sc_law_cell (fun _ _ _ _ _ _ us hl => match us, hl with | [_, _], _ => rfl) (fun vs H Q E h => ?_) (fun f cdv A outer s H vs Q E hr h => ?_)
  · obtain ⟨a, ns, k, rfl, _⟩ := h
    rfl
  · obtain ⟨a, ns, k, rfl, hS, hl, h0, h1, q⟩ := h
    refine ⟨_, (pss_cons (ps_if (pt_cmpR op_lt (pv 1) (pe_callB call_len_seq (by rfl) T.n_len (by decide +kernel) (pa_cons (pv 0) pa_nil)) (nomark _)) (pss_one (ps_ret (pe_ix ix_list (pv 0) (pv 1) (fun _ _ => rfl)))) pss_nil)
      (pss_cons (ps_set (i := 2) sc_law_cell.nd rfl (Or.inl rfl) (pe_op op_mod (pe_op op_mul pe_int (pe_op op_add (pe_op op_add (pe_op op_mul (pv 1) (pv 1)) (pe_op op_mul pe_int (pv 1))) pe_int)) pe_int))
      (pss_cons (ps_for PassesOwn.never rfl (pi_list (pe_slice sl_list (pv 0) po_none (po_some pe_int))) (pg_name (i := 3) sc_law_cell.nd rfl (Or.inl rfl)) (pss_one (ps_set (i := 2) sc_law_cell.nd rfl (Or.inl rfl) (pe_op op_mod (pe_op op_add (pe_op op_mul (pv 2) pe_int) (pv 3)) pe_int))))
      (pss_one (ps_ret (pv 2)))))), ?_⟩
    have hlen : (ns.map V.int).length = ns.length := List.length_map _
    refine ⟨_, rfl, _, rfl, a, _, rfl, .inl hS, _, _, rfl, rfl, _, rfl, ite2 (fun c => ?_) (fun c => ?_)⟩
    · have c1 : k < (((ns.map V.int).length : Nat) : Int) := of_decide_eq_true c
      rw [hlen] at c1
      obtain ⟨v, hv, _⟩ := at_ints (P := fun _ => True) ns (fun _ _ => trivial) h0 c1
      exact ⟨_, rfl, _, rfl, a, _, _, _, rfl, rfl, hS, hv, q _ _ (Same.refl _)⟩
    · refine ⟨_, rfl, _, rfl, _, _, rfl, rfl, .inl ⟨by omega, by omega⟩, _, rfl, _, _, rfl, rfl, .inl ⟨by decide, by decide⟩, _, _, rfl, rfl, _, _, rfl, rfl, _, _, rfl, rfl, .inl ⟨by decide, by decide⟩, _, _, rfl, rfl, (by show (0 : Int) < 2147483269; decide), ?_⟩
      refine ⟨_, rfl, 3, rfl, a, _, rfl, hS, fun c nc => ?_⟩
      have hc : SqL K (upd H c (.lst (cutV (ns.map V.int) none (some 3)))) c ((ns.take 3).map V.int) := by
        refine .inl (.inl ?_)
        rw [upd_same]
        have e : cutV (ns.map V.int) none (some 3) = (ns.take 3).map V.int := by
          unfold cutV
          rw [HT.sIx_none, show HT.sIx (ns.map V.int).length (ns.map V.int).length (some 3) = min 3 (ns.map V.int).length from HT.sIx_nat _ _ 3]
          rw [List.drop_zero, List.map_take, Nat.sub_zero]
          exact List.take_eq_take_min.symm
        rw [e]
      refine ⟨c, rfl, ⟨_, hc⟩, for_list (xs := (ns.take 3).map V.int) (fun i σ H' => H' = upd H c (.lst (cutV (ns.map V.int) none (some 3))) ∧ ∃ (x : Int) (y : Option V), σ = [some (.ref a), some (.int k), some (.int x), y] ∧ 0 ≤ x ∧ x < 2147483269) ⟨rfl, _, _, rfl, Int.emod_nonneg _ (by decide), Int.emod_lt_of_pos _ (by decide)⟩ (fun i σ H' _ h => by rw [h.1]; exact hc) (fun i x σ H' hx hP => ?_) (fun σ H' hP => ?_)⟩
      · obtain ⟨rfl, s, y, rfl, b0, b1⟩ := hP
        have hx2 : ∃ n : Int, x = .int n := by
          rw [List.getElem?_map] at hx
          cases e : (ns.take 3)[i]? with
          | none => rw [e] at hx; cases hx
          | some n => rw [e] at hx; exact ⟨n, (Option.some.inj hx).symm⟩
        obtain ⟨n, rfl⟩ := hx2
        refine ⟨_, rfl, _, _, rfl, rfl, .inr ⟨by decide, by decide⟩, _, rfl, _, _, rfl, rfl, _, _, rfl, rfl, (by show (0 : Int) < 2147483269; decide), ?_⟩
        exact ⟨rfl, _, _, rfl, Int.emod_nonneg _ (by decide), Int.emod_lt_of_pos _ (by decide)⟩
      · obtain ⟨rfl, s, y, rfl, b0, b1⟩ := hP
        exact ⟨_, rfl, q _ _ (same_upd nc)⟩
theorem g_law_pool (T : Txt K mg)  : Gives P w K mg base CX0 1 "_law_pool" spPool := by
  refine gives_fun T.d_law_pool sc_law_pool (fun _ _ _ _ _ _ us hl => match us, hl with | [_], _ => rfl) (fun vs H Q E h => ?_) (fun f cdv A outer s H vs Q E hr h => ?_)
  · obtain ⟨i, rfl, _⟩ := h
    rfl
  · obtain ⟨i, rfl, q⟩ := h
    refine ⟨_, (pss_cons (ps_set (i := 1) sc_law_pool.nd rfl (Or.inl rfl) (pe_ifExp (PW.pt (pw_or (pt_cmpR op_lt (pv 0) pe_int (nomark _)) (pw_or1 (pt_cmpR op_ge (pv 0) (pe_powc 1000000000000000000 ⟨by decide, by decide, by decide⟩ (by decide)) (nomark _))))) (pe_callB call_abs (by rfl) T.n_abs (by decide +kernel) (pa_cons (pv 0) pa_nil)) pe_int))
      (pss_one (ps_ret (pe_lst (pa_cons (pe_op op_mod (pv 0) pe_int) (pa_cons (pv 1) (pa_cons pe_int pa_nil))))))), ?_⟩
    have fin : ∀ d : Int, 0 ≤ d → (tRet (tLst (tCons (tOp (rI (fun _ j => 0 < j) fun i j => .int (i % j)) (tVar 0) (tC (.int 2147483269))) (tCons (tVar 1) (tCons (tC (.int 0)) tNil))))) { nx := fun _ H' => Q .non H', rt := Q } [some (.int i), some (.int d)] H := by
      intro d hd
      refine ⟨_, rfl, _, _, rfl, rfl, (by show (0 : Int) < 2147483269; decide), _, rfl, (by show 3 ≤ sizeLine; decide), fun p np => ?_⟩
      exact q _ p (same_upd np) np ⟨_, _, _, upd_same, Int.emod_nonneg _ (by decide), Int.emod_lt_of_pos _ (by decide), hd⟩
    refine ⟨_, rfl, _, _, rfl, rfl, _, rfl, ite2 (fun c => ?_) (fun c => ?_)⟩
    · refine iteT' rfl ?_
      exact ⟨_, rfl, _, rfl, fin _ (by split <;> omega)⟩
    · refine ⟨_, rfl, _, _, rfl, rfl, _, rfl, ite2 (fun c => ?_) (fun c => ?_)⟩
      · exact ⟨_, rfl, _, rfl, fin _ (by split <;> omega)⟩
      · exact fin 0 (Int.le_refl 0)
theorem g_law_draw (T : Txt K mg)  : Gives P w K mg base CX0 1 "_law_draw" spDraw := by
  refine gives_fun T.d_law_draw sc_law_draw (fun _ _ _ _ _ _ us hl => match us, hl with | [_, _], _ => rfl) (fun vs H Q E h => ?_) (fun f cdv A outer s H vs Q E hr h => ?_)
  · obtain ⟨p, m, rfl, _⟩ := h
    rfl
  · obtain ⟨p, m, rfl, hP, hm, hm2, q⟩ := h
    refine ⟨_, (pss_cons (ps_asg (pe_op op_add (pe_ix ix_list (pv 0) pe_int (fun _ _ => rfl)) pe_int) (pg_sub (pv 0) pe_int set_list))
      (pss_cons (ps_set (i := 2) sc_law_draw.nd rfl (Or.inl rfl) (pe_ix ix_list (pv 0) pe_int (fun _ _ => rfl)))
      (pss_cons (ps_asg (pe_op op_mod (pe_op op_add (pe_op op_mul (pv 2) (pe_op op_add (pe_op op_mod (pv 2) pe_int) pe_int)) (pe_op op_mul pe_int (pe_ix ix_list (pv 0) pe_int (fun _ _ => rfl)))) pe_int) (pg_sub (pv 0) pe_int set_list))
      (pss_cons (ps_if (pt_cmpR op_gt (pe_ix ix_list (pv 0) pe_int (fun _ _ => rfl)) pe_int (nomark _)) (pss_cons (ps_asg (pe_callB call_divmodW (by rfl) T.n_divmod (by decide +kernel) (pa_cons (pe_ix ix_list (pv 0) pe_int (fun _ _ => rfl)) (pa_cons (pv 1) pa_nil))) (pg_tup (by rfl) (pgs_cons (pg_sub (pv 0) pe_int set_list) (pgs_cons (pg_name (i := 3) sc_law_draw.nd rfl (Or.inl rfl)) pgs_nil))))
      (pss_one (ps_ret (pv 3)))) pss_nil)
      (pss_one (ps_ret (pe_op op_mod (pe_op op_fdiv (pe_ix ix_list (pv 0) pe_int (fun _ _ => rfl)) pe_int) (pv 1)))))))), ?_⟩
    obtain ⟨s0, d, n, e0, hs0, hs1, hd⟩ := hP
    refine ⟨_, rfl, p, _, 2, .int n, rfl, rfl, .inl (.inl e0), rfl, _, _, rfl, rfl, _, rfl, p, _, 2, 2, rfl, rfl, e0, rfl, ?_⟩
    refine ⟨_, rfl, p, _, 0, .int s0, rfl, rfl, .inl (.inl upd_same), rfl, ?_⟩
    refine ⟨_, rfl, _, rfl, _, _, rfl, rfl, (by show (0 : Int) < 50033; decide), _, _, rfl, rfl, _, _, rfl, rfl, .inl ⟨by omega, by omega⟩, _, rfl, p, _, 2, .int (n + 1), rfl, rfl, .inl (.inl upd_same), rfl, _, _, rfl, rfl, .inl ⟨by decide, by decide⟩, _, _, rfl, rfl, _, _, rfl, rfl, (by show (0 : Int) < 2147483269; decide), _, rfl, p, _, 0, 0, rfl, rfl, upd_same, rfl, ?_⟩
    have hn0 : 0 ≤ (s0 * (s0 % 50033 + 30011) + 80039 * (n + 1)) % 2147483269 := Int.emod_nonneg _ (by decide)
    have hn1 : (s0 * (s0 % 50033 + 30011) + 80039 * (n + 1)) % 2147483269 < 2147483269 := Int.emod_lt_of_pos _ (by decide)
    generalize hz : (s0 * (s0 % 50033 + 30011) + 80039 * (n + 1)) % 2147483269 = z at hn0 hn1
    refine ⟨_, rfl, p, _, 1, .int d, rfl, rfl, .inl (.inl upd_same), rfl, _, _, rfl, rfl, _, rfl, ite2 (fun c => ?_) (fun c => ?_)⟩
    · refine ⟨_, rfl, p, _, 1, .int d, rfl, rfl, .inl (.inl upd_same), rfl, _, rfl, _, _, rfl, divp_small hm hm2, fun t nt => ?_⟩
      have npt : p ≠ t := by
        intro e
        rw [← e, upd_same] at nt
        cases nt
      refine ⟨t, _, rfl, .inl (.inl upd_same), rfl, _, _, rfl, _, rfl, p, _, 1, 1, rfl, rfl, (by rw [upd_ne npt]; exact upd_same), rfl, _, _, rfl, rfl, ?_⟩
      refine ⟨_, rfl, q _ _ (SameBut.upd (SameBut.new (SameBut.upd (SameBut.upd (SameBut.refl _ _))) nt)) ⟨_, _, _, upd_same, by rw [hz]; exact hn0, by rw [hz]; exact hn1, Int.ediv_nonneg hd (by omega)⟩ (Int.emod_nonneg _ (by omega)) (Int.emod_lt_of_pos _ hm)⟩
    · refine ⟨_, rfl, p, _, 0, .int z, rfl, rfl, .inl (.inl upd_same), (by rw [← hz]; rfl), _, _, rfl, rfl, ⟨by decide, by decide⟩, _, rfl, _, _, rfl, rfl, hm, ?_⟩
      exact q _ _ (SameBut.upd (SameBut.upd (SameBut.refl _ _))) ⟨_, _, _, upd_same, by rw [hz]; exact hn0, by rw [hz]; exact hn1, hd⟩ (Int.emod_nonneg _ (by omega)) (Int.emod_lt_of_pos _ hm)
theorem g_law_figure (T : Txt K mg) (g_law_draw : Gives P w K mg base CX0 1 "_law_draw" spDraw) : Gives P w K mg base CX0 2 "_law_figure" spFigure := by
  refine gives_fun T.d_law_figure sc_law_figure (fun _ _ _ _ _ _ us hl => match us, hl with | [_], _ => rfl) (fun vs H Q E h => ?_) (fun f cdv A outer s H vs Q E hr h => ?_)
  · obtain ⟨p, rfl, _⟩ := h
    rfl
  · obtain ⟨p, rfl, hP, q⟩ := h
    refine ⟨_, (pss_cons (ps_set (i := 1) sc_law_figure.nd rfl (Or.inl rfl) (pe_lst (pa_cons pe_int (pa_cons pe_int (pa_cons (pe_op op_sub pe_int pe_int) (pa_cons pe_int (pa_cons (pe_op op_sub (pe_powc 2147483648 ⟨by decide, by decide, by decide⟩ (by decide)) pe_int) (pa_cons (pe_op op_sub pe_int (pe_powc 2147483648 ⟨by decide, by decide, by decide⟩ (by decide))) (pa_cons pe_int (pa_cons (pe_op op_sub (pe_own g_law_draw (hr.mono (by decide)) (by rfl) pass0 (pa_cons (pv 0) (pa_cons pe_int pa_nil))) pe_int) pa_nil))))))))))
      (pss_one (ps_ret (pe_ix ix_list (pe_op op_cat (pv 1) (pe_lst (pa_cons (pe_op op_sub (pe_own g_law_draw (hr.mono (by decide)) (by rfl) pass0 (pa_cons (pv 0) (pa_cons (pe_powc 4294967296 ⟨by decide, by decide, by decide⟩ (by decide)) pa_nil))) (pe_powc 2147483648 ⟨by decide, by decide, by decide⟩ (by decide))) pa_nil))) (pe_own g_law_draw (hr.mono (by decide)) (by rfl) pass0 (pa_cons (pv 0) (pa_cons pe_int pa_nil))) (fun _ _ => rfl))))), ?_⟩
    refine ⟨_, _, rfl, rfl, _, _, rfl, rfl, _, _, rfl, rfl, _, rfl, p, 12, rfl, hP, by decide, by decide, fun H1 r1 s1 P1 a1 b1 => ?_⟩
    refine ⟨_, _, rfl, rfl, (by show 8 ≤ sizeLine; decide), fun l nl => ?_⟩
    refine ⟨_, rfl, _, rfl, p, 4294967296, rfl, P1.same (same_upd nl), by decide, by decide, fun H2 r2 s2 P2 a2 b2 => ?_⟩
    have npl : p ≠ l := P1.ne nl
    have hl2 : H2 l = some (.lst _) := s2.at upd_same npl.symm
    refine ⟨_, _, rfl, rfl, (by show 1 ≤ sizeLine; decide), fun l2 nl2 => ?_⟩
    have nl12 : l ≠ l2 := ne_of_none hl2 nl2
    refine ⟨l, l2, _, _, rfl, rfl, (by rw [upd_ne nl12]; exact hl2), upd_same, (by show 9 ≤ sizeLine; decide), fun l3 nl3 => ?_⟩
    have np2 : p ≠ l2 := P2.ne nl2
    have P3 := P2.same (same_upd (o := .lst [.int (r2 - 2147483648)]) nl2)
    refine ⟨_, rfl, p, 9, rfl, P3.same (same_upd nl3), by decide, by decide, fun H4 r4 s4 P4 a4 b4 => ?_⟩
    have np3 : p ≠ l3 := P3.ne nl3
    obtain ⟨v, hv, wv⟩ := at_ints (P := Wd) [0, 1, 0 - 1, 2, 2147483648 - 1, 0 - 2147483648, 32, r1 - 3, r2 - 2147483648] (by
      intro x hx
      simp only [List.mem_cons, List.not_mem_nil, or_false] at hx
      unfold Wd
      rcases hx with e | e | e | e | e | e | e | e | e <;> omega) a4 b4
    refine ⟨l3, _, r4, .int v, rfl, rfl, .inl (.inl (s4.at upd_same np3.symm)), hv, ?_⟩
    exact q _ _ (((((SameBut.trans s1 (.of (same_upd nl))).trans s2).trans (.of (same_upd nl2))).trans (.of (same_upd nl3))).trans s4) P4 wv
theorem g_law_all_ways (T : Txt K mg)  : Gives P w K mg base CX0 1 "_law_all_ways" spWays14 := by
  refine gives_fun T.d_law_all_ways sc_law_all_ways (fun _ _ _ _ _ _ us hl => match us, hl with | [], _ => rfl) (fun vs H Q E h => ?_) (fun f cdv A outer s H vs Q E hr h => ?_)
  · obtain ⟨rfl, _⟩ := h
    rfl
  · obtain ⟨rfl, q⟩ := h
    refine ⟨_, (pss_one (ps_ret (pe_lst (pa_cons pe_str (pa_cons pe_str (pa_cons pe_str (pa_cons pe_str (pa_cons pe_str (pa_cons pe_str (pa_cons pe_str (pa_cons pe_str (pa_cons pe_str (pa_cons pe_str (pa_cons pe_str (pa_cons pe_str (pa_cons pe_str (pa_cons pe_str pa_nil))))))))))))))))), ?_⟩
    exact ⟨(by show 14 ≤ sizeLine; decide), fun r nr => q _ r (same_upd nr) nr upd_same⟩
theorem g_law_leaf_sketch (T : Txt K mg) (g_law_draw : Gives P w K mg base CX0 1 "_law_draw" spDraw) (g_law_figure : Gives P w K mg base CX0 2 "_law_figure" spFigure) : Gives P w K mg base CX0 3 "_law_leaf_sketch" spLeaf := by
  refine gives_fun T.d_law_leaf_sketch sc_law_leaf_sketch (fun _ _ _ _ _ _ us hl => match us, hl with | [_, _], _ => rfl) (fun vs H Q E h => ?_) (fun f cdv A outer s H vs Q E hr h => ?_)
  · obtain ⟨c, m, rfl, _⟩ := h
    rfl
  · obtain ⟨c, m, rfl, hP, hm, hm2, q⟩ := h
    refine ⟨_, (pss_cons (ps_if (pt_cmpR op_gt (pe_own g_law_draw (hr.mono (by decide)) (by rfl) pass0 (pa_cons (pv 0) (pa_cons pe_int pa_nil))) pe_int (nomark _)) (pss_one (ps_ret (pe_tup (pa_cons pe_str (pa_cons (pe_own g_law_draw (hr.mono (by decide)) (by rfl) pass0 (pa_cons (pv 0) (pa_cons (pv 1) pa_nil))) pa_nil))))) pss_nil)
      (pss_one (ps_ret (pe_tup (pa_cons pe_str (pa_cons (pe_own g_law_figure (hr.mono (by decide)) (by rfl) pass0 (pa_cons (pv 0) pa_nil)) pa_nil)))))), ?_⟩
    refine ⟨_, rfl, c, 3, rfl, hP, by decide, by decide, fun H1 r s1 P1 r0 r1 => ⟨_, _, rfl, rfl, _, rfl, ite2 (fun z => ?_) (fun z => ?_)⟩⟩
    · refine ⟨_, rfl, _, rfl, c, m, rfl, P1, hm, by omega, fun H2 n s2 P2 n0 n1 => ⟨(by show 2 ≤ sizeLine; decide), fun t nt => ?_⟩⟩
      have e : n = ((n.toNat : Nat) : Int) := by omega
      refine q _ _ (.unk n.toNat) ((s1.trans s2).new nt) (P2.same (same_upd nt)) ⟨t, rfl, ?_⟩ (show n.toNat < m.toNat by omega) rfl
      rw [upd_same, ← e]
    · refine ⟨_, rfl, c, rfl, P1, fun H2 i s2 P2 wi => ⟨(by show 2 ≤ sizeLine; decide), fun t nt => ?_⟩⟩
      exact q _ _ (.word i) ((s1.trans s2).new nt) (P2.same (same_upd nt)) ⟨t, rfl, upd_same⟩ wi rfl
theorem st_law_sketch (T : Txt K mg) (m : Nat) (g_law_draw : Gives P w K mg base CX0 1 "_law_draw" spDraw) (g_law_leaf_sketch : Gives P w K mg base CX0 3 "_law_leaf_sketch" spLeaf) (g_law_sketch : Gives P w K mg base CX0 (3 + m) "_law_sketch" (spSketch m)) : Gives P w K mg base CX0 (3 + m + 1) "_law_sketch" (spSketch (m + 1)) := by
  refine gives_fun T.d_law_sketch sc_law_sketch (fun _ _ _ _ _ _ us hl => match us, hl with | [_, _, _, _], _ => rfl) (fun vs H Q E h => ?_) (fun f cdv A outer s H vs Q E hr h => ?_)
  · obtain ⟨c, d, m', wa, rfl, _⟩ := h
    rfl
  · obtain ⟨c, d, m', wa, rfl, hP, hm, hm2, hw, hdm, q⟩ := h
    refine ⟨_, (pss_cons (ps_if (PW.pt (pw_or (pt_cmpR op_lt (pv 1) pe_int (nomark _)) (pw_or1 (pt_cmpR op_eq (pe_own g_law_draw (hr.mono (by omega)) (by rfl) pass0 (pa_cons (pv 0) (pa_cons pe_int pa_nil))) pe_int (nomark _))))) (pss_one (ps_ret (pe_own g_law_leaf_sketch (hr.mono (by omega)) (by rfl) pass0 (pa_cons (pv 0) (pa_cons (pv 2) pa_nil))))) pss_nil)
      (pss_cons (ps_if (pt_cmpR op_eq (pe_own g_law_draw (hr.mono (by omega)) (by rfl) pass0 (pa_cons (pv 0) (pa_cons pe_int pa_nil))) pe_int (nomark _)) (pss_one (ps_ret (pe_tup (pa_cons (pe_ix ix_list (pe_lst (pa_cons pe_str (pa_cons pe_str pa_nil))) (pe_own g_law_draw (hr.mono (by omega)) (by rfl) pass0 (pa_cons (pv 0) (pa_cons pe_int pa_nil))) (fun _ _ => rfl)) (pa_cons (pe_own g_law_sketch (hr.mono (by omega)) (by rfl) pass0 (pa_cons (pv 0) (pa_cons (pe_op op_sub (pv 1) pe_int) (pa_cons (pv 2) (pa_cons (pv 3) pa_nil))))) pa_nil))))) pss_nil)
      (pss_cons (ps_set (i := 4) sc_law_sketch.nd rfl (Or.inl rfl) (pe_ix ix_list (pv 3) (pe_own g_law_draw (hr.mono (by omega)) (by rfl) pass0 (pa_cons (pv 0) (pa_cons (pe_callB call_len_seq (by rfl) T.n_len (by decide +kernel) (pa_cons (pv 3) pa_nil)) pa_nil))) (fun _ _ => rfl)))
      (pss_cons (ps_set (i := 5) sc_law_sketch.nd rfl (Or.inl rfl) (pe_own g_law_sketch (hr.mono (by omega)) (by rfl) pass0 (pa_cons (pv 0) (pa_cons (pe_op op_sub (pv 1) pe_int) (pa_cons (pv 2) (pa_cons (pv 3) pa_nil))))))
      (pss_one (ps_ret (pe_tup (pa_cons (pv 4) (pa_cons (pv 5) (pa_cons (pe_own g_law_sketch (hr.mono (by omega)) (by rfl) pass0 (pa_cons (pv 0) (pa_cons (pe_op op_sub (pe_op op_sub (pv 1) pe_int) (pe_own g_law_draw (hr.mono (by omega)) (by rfl) pass0 (pa_cons (pv 0) (pa_cons pe_int pa_nil)))) (pa_cons (pv 2) (pa_cons (pv 3) pa_nil))))) pa_nil)))))))))), ?_⟩
    have hlw : (((ways14.map onm).length : Nat) : Int) = 14 := rfl
    have leaf : ∀ H', SameBut c H H' → PoolAt H' c → (tRet (tOwn spLeaf E0 (tCons (tVar 0) (tCons (tVar 2) tNil)))) { nx := fun _ H' => Q .non H', rt := Q } [some (.ref c), some (.int d), some (.int m'), some (.ref wa), none, none] H' := by
      intro H' t' P'
      exact ⟨_, rfl, _, rfl, c, m', rfl, P', hm, hm2, fun H2 v p s2 P2 hp ho hd => q _ v p (t'.trans s2) P2 hp ho (.inr hd)⟩
    have hne : wa ≠ c := pool_ne hP hw
    refine ⟨_, rfl, _, _, rfl, rfl, _, rfl, ite2 (fun z => iteT' rfl (leaf H (SameBut.refl _ _) hP)) (fun z => ?_)⟩
    have hd2 : 2 ≤ d := by
      have z2 : ¬ d < 2 := fun y => z (decide_eq_true y)
      omega
    refine ⟨_, rfl, c, 6, rfl, hP, by decide, by decide, fun H1 r s1 P1 r0 r1 => ⟨rfl, _, rfl, ite2 (fun y => leaf H1 s1 P1) (fun y => ?_)⟩⟩
    refine ⟨_, rfl, c, 6, rfl, P1, by decide, by decide, fun H2 r2 s2 P2 _ _ => ⟨rfl, _, rfl, ite2 (fun y => ?_) (fun y => ?_)⟩⟩
    · -- one operand
      refine ⟨(by show 2 ≤ sizeLine; decide), fun l nl => ⟨_, rfl, c, 2, rfl, P2.same (same_upd nl), by decide, by decide, fun H3 j s3 P3 j0 j1 => ?_⟩⟩
      have nlc : l ≠ c := (P2.ne nl).symm
      obtain ⟨o, ho, hat⟩ := at_ops [.neg, .not] j0 j1
      have hs1 : o.single = true := by
        rcases List.mem_cons.mp ho with e | e
        · rw [e]; rfl
        · rw [List.mem_singleton.mp e]; rfl
      have t3 : SameBut c H H3 := ((s1.trans s2).new nl).trans s3
      refine ⟨l, _, j, _, rfl, rfl, .inl (.inl (s3.at upd_same nlc)), hat, _, rfl, _, rfl, _, _, rfl, rfl, _, rfl, _, rfl, c, d - 1, m', wa, rfl, P3, hm, hm2, t3.at hw hne, by omega, fun H4 v p s4 P4 hp hok hdp => ⟨(by show 2 ≤ sizeLine; decide), fun t nt => ?_⟩⟩
      refine q _ _ (.un o p) ((t3.trans s4).new nt) (P4.same (same_upd nt)) ⟨t, v, rfl, upd_same, hp.same (same_upd nt)⟩ ⟨hs1, hok⟩ (.inl ?_)
      show ((p.depth + 1 : Nat) : Int) ≤ d
      omega
    · -- two operands
      have t2 : SameBut c H H2 := s1.trans s2
      have hw2 := t2.at hw hne
      refine ⟨_, rfl, _, rfl, _, rfl, wa, _, rfl, .inl (.inl (.inl hw2)), c, 14, rfl, P2, by decide, by decide, fun H3 j s3 P3 j0 j1 => ?_⟩
      obtain ⟨o, ho, hat⟩ := at_ops ways14 j0 j1
      have t3 : SameBut c H H3 := t2.trans s3
      refine ⟨wa, _, j, _, rfl, rfl, .inl (.inl (t3.at hw hne)), hat, ?_⟩
      refine ⟨_, rfl, _, rfl, _, _, rfl, rfl, _, rfl, _, rfl, c, d - 1, m', wa, rfl, P3, hm, hm2, t3.at hw hne, by omega, fun H4 v p s4 P4 hp hok hdp => ?_⟩
      have t4 := t3.trans s4
      refine ⟨_, rfl, _, rfl, _, rfl, _, rfl, _, _, rfl, rfl, _, rfl, c, 2, rfl, P4, by decide, by decide, fun H5 k s5 P5 k0 k1 => ?_⟩
      have t5 := t4.trans s5
      refine ⟨_, _, rfl, rfl, _, rfl, _, rfl, c, d - 1 - k, m', wa, rfl, P5, hm, hm2, t5.at hw hne, by omega, fun H6 v2 p2 s6 P6 hp2 hok2 hdp2 => ⟨(by show 3 ≤ sizeLine; decide), fun t nt => ?_⟩⟩
      refine q _ _ (.bin o p p2) ((t5.trans s6).new nt) (P6.same (same_upd nt)) ⟨t, v, v2, rfl, upd_same, ((hp.but P4 s5).but P5 s6).same (same_upd nt), hp2.same (same_upd nt)⟩ ⟨ways_quiet o ho, hok, hok2⟩ (.inl ?_)
      show ((max p.depth p2.depth + 1 : Nat) : Int) ≤ d
      omega
end
end Cb

end

section
set_option maxRecDepth 100000
set_option maxHeartbeats 4000000
namespace Cb
open PySem PySem.Spec PyProof.Rows L2
local macro_rules | `(tactic| walk_at "pl") => `(tactic| first
  | with_reducible assumption
  | ((with_reducible apply PoolAt.new); (with_reducible assumption); walk_at "pl")
  | ((with_reducible apply PoolAt.same'); (with_reducible assumption); walk_at "pl"))
local macro_rules | `(tactic| walk_at "hp") => `(tactic| first
  | with_reducible assumption
  | with_reducible exact upd_same
  | ((with_reducible apply upd_new); (with_reducible assumption); walk_at "hp")
  | ((with_reducible apply hp_same); (with_reducible assumption); walk_at "hp")
  | ((with_reducible apply but_tup); (with_reducible assumption); walk_at "pl"; walk_at "hp")
  | ((with_reducible apply but_lst); (with_reducible assumption); walk_at "pl"; walk_at "hp"; first | exact rfl | assumption | exact npool_app (by omega)))
local macro_rules | `(tactic| walk_at "da") => `(tactic| first
  | with_reducible assumption
  | with_reducible exact DA.int _
  | with_reducible exact DA.str _
  | with_reducible exact DA.bl _
  | with_reducible exact DA.non
  | ((with_reducible apply DA.tup); (with_reducible exact upd_same); walk_at "dal")
  | ((with_reducible apply DA.lst); (with_reducible exact upd_same); exact rfl; exact rfl; walk_at "dal")
  | with_reducible exact DA.dct upd_same
  | ((with_reducible apply DA.new); (with_reducible assumption); walk_at "da")
  | ((with_reducible apply DA.same'); (with_reducible assumption); walk_at "da")
  | ((with_reducible apply DA.but'); (with_reducible assumption); walk_at "pl"; walk_at "da"))
local macro_rules | `(tactic| walk_at "dal") => `(tactic| first
  | exact DAll.nil
  | (apply DAll.cons; walk_at "da"; walk_at "dal"))
local macro_rules | `(tactic| walk_at "ft") => `(tactic| first
  | with_reducible assumption
  | apply Fit.non'
  | apply Fit.bl'
  | (apply Fit.str (n := 20); decide +kernel)
  | (apply Fit.int'; first | decide | omega)
  | (apply Fit.tup'; walk_at "fta")
  | (apply Fit.lst'; walk_at "fta"))
local macro_rules | `(tactic| walk_at "fta") => `(tactic| first
  | apply FitAll.nil'
  | (apply FitAll.cons'; walk_at "ft"; walk_at "fta"))
local macro_rules | `(tactic| walk_at "sm") => `(tactic| first
  | with_reducible assumption
  | with_reducible exact L2.Same.refl _
  | ((with_reducible apply sm_new); (with_reducible assumption); walk_at "sm")
  | ((with_reducible apply sm_same); (with_reducible assumption); walk_at "sm"))
local macro_rules | `(tactic| walk_at "sb") => `(tactic| first
  | with_reducible assumption
  | with_reducible exact SameBut.refl _ _
  | ((with_reducible apply sb_new); (with_reducible assumption); walk_at "sb")
  | ((with_reducible apply sb_but); (with_reducible assumption); walk_at "sb")
  | ((with_reducible apply sb_same); (with_reducible assumption); walk_at "sb"))
local macro_rules | `(tactic| walk_at "sq") => `(tactic| first
  | (refine Or.inl (Or.inl ?_); walk_at "hp")
  | (refine Or.inr (Or.inl (Or.inl ?_)); walk_at "hp")
  | (refine Or.inl (Or.inl (Or.inl ?_)); walk_at "hp")
  | exact (by assumption : ∀ H', SqT _ H' _ _) _
  | exact Or.inr ((by assumption : ∀ H', SqT _ H' _ _) _))
local macro_rules | `(tactic| walk_at "dt") => `(tactic| first
  | with_reducible assumption
  | apply (by assumption : ∀ b, Dat b _ _ _ _)
  | (with_reducible apply Dat.non)
  | (with_reducible apply Dat.bl)
  | ((with_reducible apply Dat.str); first | decide +kernel | exact name_short _)
  | ((with_reducible apply Dat.int); first | decide | omega)
  | ((with_reducible apply Dat.up'); (first | (with_reducible assumption) | apply (by assumption : ∀ b, Dat b _ _ _ _)); omega)
  | ((with_reducible apply Dat.tup); (with_reducible exact upd_same); walk_at "dtl")
  | ((with_reducible apply Dat.lst); (with_reducible exact upd_same); (first | exact rfl | assumption); (first | exact rfl | assumption); walk_at "dtl")
  | ((with_reducible apply Dat.dct); with_reducible exact upd_same)
  | ((with_reducible apply Dat.new); (with_reducible assumption); walk_at "dt")
  | ((with_reducible apply Dat.same'); (with_reducible assumption); walk_at "dt")
  | ((with_reducible apply Dat.but'); (with_reducible assumption); walk_at "pl"; walk_at "dt")
  | ((with_reducible apply Dat.ofE); (with_reducible assumption); omega)
  | ((with_reducible apply Dat.leaf); (with_reducible assumption); assumption; assumption; decide; omega))
local macro_rules | `(tactic| walk_at "dtl") => `(tactic| first
  | apply DatL.nil
  | ((with_reducible apply DatL.cons); walk_at "dt"; walk_at "dtl")
  | with_reducible assumption
  | apply (by assumption : ∀ b, DatL b _ _ _ _)
  | ((with_reducible apply DatL.up'); (first | (with_reducible assumption) | apply (by assumption : ∀ b, DatL b _ _ _ _)); omega)
  | ((with_reducible apply DatL.new); (with_reducible assumption); walk_at "dtl")
  | ((with_reducible apply DatL.same'); (with_reducible assumption); walk_at "dtl")
  | ((with_reducible apply DatL.but'); (with_reducible assumption); walk_at "pl"; walk_at "dtl"))
local macro_rules | `(tactic| walk_at "al") => `(tactic| first
  | exact AllD.nil
  | ((with_reducible apply AllD.cons); walk_at "dt"; omega; walk_at "al")
  | with_reducible assumption
  | ((with_reducible apply AllD.app); walk_at "al"; walk_at "al")
  | ((with_reducible apply AllD.new); (with_reducible assumption); walk_at "al")
  | ((with_reducible apply AllD.same'); (with_reducible assumption); walk_at "al")
  | ((with_reducible apply AllD.but'); (with_reducible assumption); walk_at "pl"; walk_at "al"))
local macro_rules | `(tactic| walk_at "pt") => `(tactic| first
  | with_reducible assumption
  | ((with_reducible apply PatAt.new); (with_reducible assumption); walk_at "pt")
  | ((with_reducible apply PatAt.same'); (with_reducible assumption); walk_at "pt")
  | ((with_reducible apply PatAt.but'); (with_reducible assumption); walk_at "pl"; walk_at "pt"))
local macro_rules | `(tactic| walk_at "db") => `(tactic| first
  | with_reducible assumption
  | ((with_reducible apply DatB.new); (with_reducible assumption); walk_at "db")
  | ((with_reducible apply DatB.same'); (with_reducible assumption); walk_at "db")
  | ((with_reducible apply DatB.but'); (with_reducible assumption); walk_at "pl"; walk_at "db"))
local macro_rules | `(tactic| walk_at "st") => `(tactic| first
  | (with_reducible show upd _ _ _ _ = some _); (walk_at "hp")
  | (with_reducible show L2.Same _ _); (walk_at "sm")
  | (with_reducible refine And.intro ?_ ?_)
  | exact rfl
  | with_reducible assumption
  | (with_reducible show DA _ _ _); (walk_at "da")
  | (with_reducible show PoolAt _ _); (walk_at "pl")
  | (with_reducible show Dat _ _ _ _ _); (walk_at "dt")
  | (with_reducible show Fit _ _ _ _); (walk_at "ft")
  | (with_reducible show PatAt _ _ _); (walk_at "pt")
  | (with_reducible show SameBut _ _ _); (walk_at "sb")
  | (with_reducible show _ ≤ sizeLine); (first | exact len_line _ rfl | exact len_line2 _ _ rfl rfl | decide | omega | exact Nat.le_trans (m := 200000) (by omega) (by decide) | exact Nat.le_trans (m := 200000) (by simp only [List.length_cons, List.length_nil]; omega) (by decide))
  | (with_reducible first | show (_ : Int) ≤ _ | show (_ : Int) < _ | show (_ : Nat) ≤ _ | show (_ : Nat) < _); (first | omega | (simp only [List.length_append]; omega) | (simp only [List.length_cons, List.length_nil]; omega) | (simp only [List.length_append, List.length_cons, List.length_nil]; omega) | exact Int.lt_of_lt_of_le (by assumption) (by decide))
  | exact cut1_not _ _
  | exact List.cons_ne_nil _ _
  | exact fun h => absurd h (List.cons_ne_nil _ _)
  | exact fun h => (h rfl).elim
  | (with_reducible show DatB _ _ _ _); (walk_at "db")
  | (with_reducible show AllD _ _ _ _); (walk_at "al")
  | exact Or.inl ⟨rfl, _, Or.inl (Or.inl (by walk_at "hp"))⟩
  | exact fun h => absurd h.1 (Nat.ne_of_beq_eq_false rfl)
  | exact fun h => absurd h.2 (Nat.ne_of_beq_eq_false rfl)
  | exact at0 _ _
  | exact at1 _ _ _
  | (refine And.intro ?_ ?_)
  | (fail_if_success first | show (∃ _ : Nat → Nat → L2.St → Hp → Prop, _) | show (∃ _ : Nat → Nat → Hp → Prop, _) | show (∃ _ : Nat → L2.St → Hp → Prop, _)); (apply Exists.intro)
  | (refine iteT' rfl ?_)
  | (refine iteF' rfl ?_)
  | walk_at "sq"
  | (with_reducible show _ = some _); (walk_at "hp")
  | intro _
  | assumption)
local macro_rules | `(tactic| walk_at "rd") => `(tactic| repeat walk_at "st")
def isIntD : PyData → Bool
  | .int _ => true
  | _ => false
def wordD : PyData → Bool
  | .int i => decide (Wd i)
  | _ => false
def rangeD : PyData → Bool
  | .int i => decide (0 ≤ i) && decide (i ≤ 999)
  | _ => false
def spIsIntD : Sp := fun vs H Q _ => ∃ (v : V) (d : PyData), vs = [v] ∧ DA H v d ∧ Q (.bl (isIntD d)) H
def spIsWordD : Sp := fun vs H Q _ => ∃ (v : V) (d : PyData), vs = [v] ∧ DA H v d ∧ Q (.bl (wordD d)) H
abbrev dbl16 : List V := [.str "add", .str "sub", .str "mul", .str "div", .str "rem", .str "and", .str "or", .str "xor", .str "shl", .str "shr", .str "lt", .str "le", .str "gt", .str "ge", .str "eq", .str "ne"]
def isPat : Nat → PyData → Bool
  | n + 1, .tuple [.str o, x] => if decide (V.str o = V.str "word") then wordD x else if decide (V.str o = V.str "unknown") then (wordD x && rangeD x) else (inV (.str o) [.str "neg", .str "not"] && isPat n x)
  | n + 1, .tuple [.str o, x, y] => (inV (.str o) dbl16 && !inV (.str o) [.str "div", .str "rem"]) && (isPat n x && isPat n y)
  | _, _ => false
theorem isPat_zero (d : PyData) : isPat 0 d = false := by unfold isPat; rfl
theorem isPat_w (k : Nat) (o : Str) (x : PyData) : isPat (k + 1) (.tuple [.str o, x]) = if decide (V.str o = V.str "word") then wordD x else if decide (V.str o = V.str "unknown") then (wordD x && rangeD x) else (inV (.str o) [.str "neg", .str "not"] && isPat k x) := by rw [isPat]
theorem isPat_b (k : Nat) (o : Str) (x y : PyData) : isPat (k + 1) (.tuple [.str o, x, y]) = ((inV (.str o) dbl16 && !inV (.str o) [.str "div", .str "rem"]) && (isPat k x && isPat k y)) := by rw [isPat]
theorem isPat_nt (k : Nat) {d : PyData} (h : isTup d = false) : isPat k d = false := by
  cases d with
  | tuple ds => cases h
  | _ => cases k <;> (unfold isPat; rfl)
theorem isPat_none (k : Nat) : isPat k (.tuple []) = false := by cases k <;> (unfold isPat; rfl)
theorem isPat_one (k : Nat) (x : PyData) : isPat k (.tuple [x]) = false := by cases x <;> cases k <;> (unfold isPat; rfl)
theorem isPat_long (k : Nat) (x y z u : PyData) (r : List PyData) : isPat k (.tuple (x :: y :: z :: u :: r)) = false := by cases x <;> cases k <;> (unfold isPat; rfl)
theorem isPat_ns2 (k : Nat) {x y : PyData} (h : isStr x = false) : isPat k (.tuple [x, y]) = false := by
  cases x with
  | str o => cases h
  | _ => cases k <;> (unfold isPat; rfl)
theorem isPat_ns3 (k : Nat) {x y z : PyData} (h : isStr x = false) : isPat k (.tuple [x, y, z]) = false := by
  cases x with
  | str o => cases h
  | _ => cases k <;> (unfold isPat; rfl)
theorem str_of {x : PyData} (h : ¬ (!isStr x) = true) : ∃ o, x = .str o := by
  cases x with
  | str o => exact ⟨o, rfl⟩
  | _ => exact absurd rfl h
theorem tup_of {x : PyData} (h : ¬ (!isTup x) = true) : ∃ o, x = .tuple o := by
  cases x with
  | tuple o => exact ⟨o, rfl⟩
  | _ => exact absurd rfl h
theorem nots {b : Bool} (h : (!b) = true) : b = false := by
  cases b
  · rfl
  · cases h
def spBelowD (n : Nat) : Sp := fun vs H Q _ => ∃ (v : V) (d : PyData) (k : Int), vs = [v, .int k] ∧ DA H v d ∧ 0 ≤ k ∧ k < n ∧ ∀ H', L2.Same H H' → Q (.bl (isPat k.toNat d)) H'
def spIsPatD : Sp := fun vs H Q _ => ∃ (v : V) (d : PyData), vs = [v] ∧ DA H v d ∧ ∀ H', L2.Same H H' → Q (.bl (isPat 12 d)) H'
section
variable {P : Program} {w : World} {K : PySem.W.Frag} {mg : Str → Option Value} {base : Heap}
theorem g_is_integer (T : Txt K mg)  : Gives P w K mg base CX0 1 "is_integer" spIsIntD := by
  refine gives_fun T.d_is_integer sc_is_integer (fun _ _ _ _ _ _ us hl => match us, hl with | [_], _ => rfl) (fun vs H Q E h => ?_) (fun f cdv A outer s H vs Q E hr h => ?_)
  · obtain ⟨v, d, rfl, _⟩ := h
    rfl
  · obtain ⟨v, d, rfl, hd, q⟩ := h
    refine ⟨_, (pss_one (ps_ret (pe_and (pe_callB (call_isiD kb_int) (by rfl) T.n_isinstance (by decide +kernel) (pa_cons (pv 0) (pa_cons (pe_bltn (v := .ty "int") (by rfl) T.n_int (by decide +kernel) rfl) pa_nil))) (pe_one (pe_not (pe_callB (call_isiD kb_bool) (by rfl) T.n_isinstance (by decide +kernel) (pa_cons (pv 0) (pa_cons (pe_bltn (v := .ty "bool") (by rfl) T.n_bool (by decide +kernel) rfl) pa_nil)))))))), ?_⟩
    cases d <;> walk_at "rd"
theorem g_is_word (T : Txt K mg) (g_is_integer : Gives P w K mg base CX0 1 "is_integer" spIsIntD) : Gives P w K mg base CX0 2 "is_word" spIsWordD := by
  refine gives_fun T.d_is_word sc_is_word (fun _ _ _ _ _ _ us hl => match us, hl with | [_], _ => rfl) (fun vs H Q E h => ?_) (fun f cdv A outer s H vs Q E hr h => ?_)
  · obtain ⟨v, d, rfl, _⟩ := h
    rfl
  · obtain ⟨v, d, rfl, hd, q⟩ := h
    refine ⟨_, (pss_one (ps_ret (pe_and (pe_own g_is_integer (hr.mono (by decide)) (by rfl) pass0 (pa_cons (pv 0) pa_nil)) (pe_one (pe_chain op_le op_le (pe_gv (by rfl) T.c_LEAST) (pv 0) (pe_gv (by rfl) T.c_GREATEST)))))), ?_⟩
    cases d with
    | int i =>
      cases hd
      walk_at "rd"
      refine ite2 (fun c => ?_) (fun c => ?_)
      · have c1 : (-2147483648 : Int) ≤ i := of_decide_eq_true c
        walk_at "rd"
        exact bl_cast (decide_eq_decide.mpr ⟨fun z => ⟨c1, z⟩, fun z => z.2⟩) q
      · have c1 : ¬ (-2147483648 : Int) ≤ i := fun z => c (decide_eq_true z)
        exact bl_cast (decide_eq_false fun z => c1 z.1).symm q
    | _ => walk_at "rd"
theorem st_is_pattern_below (T : Txt K mg) (m : Nat) (g_is_word : Gives P w K mg base CX0 2 "is_word" spIsWordD) (g_is_pattern_below : Gives P w K mg base CX0 (2 + m) "is_pattern_below" (spBelowD m)) : Gives P w K mg base CX0 (2 + m + 1) "is_pattern_below" (spBelowD (m + 1)) := by
  refine gives_fun T.d_is_pattern_below sc_is_pattern_below (fun _ _ _ _ _ _ us hl => match us, hl with | [_, _], _ => rfl) (fun vs H Q E h => ?_) (fun f cdv A outer s H vs Q E hr h => ?_)
  · obtain ⟨v, d, k, rfl, _⟩ := h
    rfl
  · obtain ⟨v, d, k, rfl, hd, h0, hk, q⟩ := h
    refine ⟨_, (pss_cons (ps_if (PW.pt (pw_or (pt_cmpR op_lt (pv 1) pe_int (nomark _)) (pw_or (pt_not (pt_val (pe_callB (call_isiD kb_tuple) (by rfl) T.n_isinstance (by decide +kernel) (pa_cons (pv 0) (pa_cons (pe_bltn (v := .ty "tuple") (by rfl) T.n_tuple (by decide +kernel) rfl) pa_nil))))) (pw_or (pt_cmpR op_notIn_seq (pe_callB call_len_seq (by rfl) T.n_len (by decide +kernel) (pa_cons (pv 0) pa_nil)) (pe_tup (pa_cons pe_int (pa_cons pe_int pa_nil))) (by rfl)) (pw_or1 (pt_not (pt_val (pe_callB (call_isiD kb_str) (by rfl) T.n_isinstance (by decide +kernel) (pa_cons (pe_ix ix_tup (pv 0) pe_int (fun _ _ => rfl)) (pa_cons (pe_bltn (v := .ty "str") (by rfl) T.n_str (by decide +kernel) rfl) pa_nil)))))))))) (pss_one (ps_ret pe_bl)) pss_nil)
      (pss_cons (ps_if (pt_cmpR op_eq (pe_callB call_len_seq (by rfl) T.n_len (by decide +kernel) (pa_cons (pv 0) pa_nil)) pe_int (nomark _)) (pss_cons (ps_if (PW.pt (pw_or (pt_cmpR op_notIn_seq (pe_ix ix_tup (pv 0) pe_int (fun _ _ => rfl)) (pe_gt (by rfl) T.c_DOUBLE) (by rfl)) (pw_or1 (pt_cmpR op_in_seq (pe_ix ix_tup (pv 0) pe_int (fun _ _ => rfl)) (pe_tup (pa_cons pe_str (pa_cons pe_str pa_nil))) (by rfl))))) (pss_one (ps_ret pe_bl)) pss_nil)
      (pss_one (ps_ret (pe_and (pe_own g_is_pattern_below (hr.mono (by omega)) (by rfl) pass0 (pa_cons (pe_ix ix_tup (pv 0) pe_int (fun _ _ => rfl)) (pa_cons (pe_op op_sub (pv 1) pe_int) pa_nil))) (pe_one (pe_own g_is_pattern_below (hr.mono (by omega)) (by rfl) pass0 (pa_cons (pe_ix ix_tup (pv 0) pe_int (fun _ _ => rfl)) (pa_cons (pe_op op_sub (pv 1) pe_int) pa_nil)))))))) pss_nil)
      (pss_cons (ps_if (pt_cmpR op_eq (pe_ix ix_tup (pv 0) pe_int (fun _ _ => rfl)) pe_str (nomark _)) (pss_one (ps_ret (pe_own g_is_word (hr.mono (by omega)) (by rfl) pass0 (pa_cons (pe_ix ix_tup (pv 0) pe_int (fun _ _ => rfl)) pa_nil)))) pss_nil)
      (pss_cons (ps_if (pt_cmpR op_eq (pe_ix ix_tup (pv 0) pe_int (fun _ _ => rfl)) pe_str (nomark _)) (pss_one (ps_ret (pe_and (pe_own g_is_word (hr.mono (by omega)) (by rfl) pass0 (pa_cons (pe_ix ix_tup (pv 0) pe_int (fun _ _ => rfl)) pa_nil)) (pe_one (pe_chain op_le op_le pe_int (pe_ix ix_tup (pv 0) pe_int (fun _ _ => rfl)) (pe_gv (by rfl) T.c_MOST_UNKNOWN)))))) pss_nil)
      (pss_one (ps_ret (pe_and (pe_cmpR op_in_seq (pe_ix ix_tup (pv 0) pe_int (fun _ _ => rfl)) (pe_gt (by rfl) T.c_SINGLE) (by rfl)) (pe_one (pe_own g_is_pattern_below (hr.mono (by omega)) (by rfl) pass0 (pa_cons (pe_ix ix_tup (pv 0) pe_int (fun _ _ => rfl)) (pa_cons (pe_op op_sub (pv 1) pe_int) pa_nil))))))))))), ?_⟩
    obtain ⟨n, rfl⟩ : ∃ n : Nat, k = (n : Int) := ⟨k.toNat, by omega⟩
    rw [Int.toNat_natCast] at q
    cases n with
    | zero =>
      walk_at "rd"
      exact ans q (isPat_zero d).symm (by walk_at "sm")
    | succ k =>
      have hk1 : (((k + 1 : Nat) : Int) - 1).toNat = k := by omega
      walk_at "rd"
      refine ite2 (fun c => ?_) (fun c => ?_)
      · walk_at "rd"
        exact ans q (isPat_nt _ (nots c)).symm (by walk_at "sm")
      obtain ⟨ds, rfl⟩ := tup_of c
      clear c
      have hd0 := hd
      cases hd with
      | tup ha hds =>
        match ds, hds with
        | [], .nil =>
          walk_at "rd"
          exact ans q (isPat_none _).symm (by walk_at "sm")
        | [x], .cons h1 .nil =>
          walk_at "rd"
          exact ans q (isPat_one _ _).symm (by walk_at "sm")
        | [x, y], .cons h1 (.cons h2 .nil) =>
          walk_at "rd"
          refine ite2 (fun c => ?_) (fun c => ?_)
          · walk_at "rd"
            exact ans q (isPat_ns2 _ (nots c)).symm (by walk_at "sm")
          obtain ⟨o, rfl⟩ := str_of c
          clear c
          cases h1
          rw [isPat_w] at q
          walk_at "rd"
          refine ite2 (fun c => ?_) (fun c => ?_)
          · rw [if_pos c] at q
            walk_at "rd"
            exact ans q rfl (by walk_at "sm")
          · rw [if_neg c] at q
            walk_at "rd"
            refine ite2 (fun c2 => ?_) (fun c2 => ?_)
            · rw [if_pos c2] at q
              cases y with
              | int i =>
                cases h2
                walk_at "rd"
                refine ite2 (fun c3 => ?_) (fun c3 => ?_)
                · walk_at "rd"
                  have e : (wordD (.int i) && rangeD (.int i)) = (decide (0 ≤ i) && decide (i ≤ 999)) := by rw [show wordD (.int i) = true from c3]; rfl
                  rw [e] at q
                  refine ite2 (fun c4 => ?_) (fun c4 => ?_)
                  · walk_at "rd"
                    exact ans q (by rw [c4]; rfl) (by walk_at "sm")
                  · exact ans q (by rw [Bool.eq_false_iff.mpr c4]; rfl) (by walk_at "sm")
                · exact ans q (by rw [show wordD (.int i) = false from Bool.eq_false_iff.mpr c3]; rfl) (by walk_at "sm")
              | _ =>
                walk_at "rd"
                exact ans q rfl (by walk_at "sm")
            · rw [if_neg c2] at q
              walk_at "rd"
              refine ite2 (fun c3 => ?_) (fun c3 => ?_)
              · walk_at "rd"
                exact ans q (by rw [show inV _ _ = true from c3, hk1]; rfl) (by walk_at "sm")
              · exact ans q (by rw [show inV _ _ = false from Bool.eq_false_iff.mpr c3]; rfl) (by walk_at "sm")
        | [x, y, z], .cons h1 (.cons h2 (.cons h3 .nil)) =>
          walk_at "rd"
          refine ite2 (fun c => ?_) (fun c => ?_)
          · walk_at "rd"
            exact ans q (isPat_ns3 _ (nots c)).symm (by walk_at "sm")
          obtain ⟨o, rfl⟩ := str_of c
          clear c
          cases h1
          rw [isPat_b] at q
          walk_at "rd"
          refine ite2 (fun c => ?_) (fun c => ?_)
          · walk_at "rd"
            exact ans q (by rw [show inV _ dbl16 = false from nots c]; rfl) (by walk_at "sm")
          · walk_at "rd"
            refine ite2 (fun c2 => ?_) (fun c2 => ?_)
            · walk_at "rd"
              exact ans q (by rw [show inV _ [.str "div", .str "rem"] = true from c2, Bool.not_true, Bool.and_false]; rfl) (by walk_at "sm")
            · have e1 : inV (.str o) dbl16 = true := by
                cases z : inV (.str o) dbl16
                · exact absurd (by show (!inV (.str o) dbl16) = true; rw [z]; rfl) c
                · rfl
              have e2 : inV (.str o) [.str "div", .str "rem"] = false := Bool.eq_false_iff.mpr c2
              rw [e1, e2] at q
              walk_at "rd"
              refine ite2 (fun c3 => ?_) (fun c3 => ?_)
              · rw [hk1] at c3
                rw [c3] at q
                walk_at "rd"
                exact ans q (by rw [hk1]; rfl) (by walk_at "sm")
              · rw [hk1] at c3
                rw [Bool.eq_false_iff.mpr c3] at q
                exact ans q rfl (by walk_at "sm")
        | x :: y :: z :: u :: r, .cons h1 (.cons h2 (.cons h3 (.cons h4 h5))) =>
          walk_at "rd"
          exact ans q (isPat_long _ _ _ _ _ _).symm (by walk_at "sm")
theorem g_is_pattern (T : Txt K mg) (g_is_pattern_below : Gives P w K mg base CX0 15 "is_pattern_below" (spBelowD 13)) : Gives P w K mg base CX0 16 "is_pattern" spIsPatD := by
  refine gives_fun T.d_is_pattern sc_is_pattern (fun _ _ _ _ _ _ us hl => match us, hl with | [_], _ => rfl) (fun vs H Q E h => ?_) (fun f cdv A outer s H vs Q E hr h => ?_)
  · obtain ⟨v, d, rfl, _⟩ := h
    rfl
  · obtain ⟨v, d, rfl, hd, q⟩ := h
    refine ⟨_, (pss_one (ps_ret (pe_own g_is_pattern_below (hr.mono (by decide)) (by rfl) pass0 (pa_cons (pv 0) (pa_cons (pe_gv (by rfl) T.c_MOST_DEPTH) pa_nil))))), ?_⟩
    walk_at "rd"
    exact ans q rfl (by walk_at "sm")
end
end Cb

end

section
set_option maxRecDepth 100000
set_option maxHeartbeats 4000000
namespace Cb
open PySem PySem.Spec PyProof.Rows L2
local macro_rules | `(tactic| walk_at "pl") => `(tactic| first
  | with_reducible assumption
  | ((with_reducible apply PoolAt.new); (with_reducible assumption); walk_at "pl")
  | ((with_reducible apply PoolAt.same'); (with_reducible assumption); walk_at "pl"))
local macro_rules | `(tactic| walk_at "hp") => `(tactic| first
  | with_reducible assumption
  | with_reducible exact upd_same
  | ((with_reducible apply upd_new); (with_reducible assumption); walk_at "hp")
  | ((with_reducible apply hp_same); (with_reducible assumption); walk_at "hp")
  | ((with_reducible apply but_tup); (with_reducible assumption); walk_at "pl"; walk_at "hp")
  | ((with_reducible apply but_lst); (with_reducible assumption); walk_at "pl"; walk_at "hp"; first | exact rfl | assumption | exact npool_app (by omega)))
local macro_rules | `(tactic| walk_at "da") => `(tactic| first
  | with_reducible assumption
  | with_reducible exact DA.int _
  | with_reducible exact DA.str _
  | with_reducible exact DA.bl _
  | with_reducible exact DA.non
  | ((with_reducible apply DA.tup); (with_reducible exact upd_same); walk_at "dal")
  | ((with_reducible apply DA.lst); (with_reducible exact upd_same); exact rfl; exact rfl; walk_at "dal")
  | with_reducible exact DA.dct upd_same
  | ((with_reducible apply DA.new); (with_reducible assumption); walk_at "da")
  | ((with_reducible apply DA.same'); (with_reducible assumption); walk_at "da")
  | ((with_reducible apply DA.but'); (with_reducible assumption); walk_at "pl"; walk_at "da"))
local macro_rules | `(tactic| walk_at "dal") => `(tactic| first
  | exact DAll.nil
  | (apply DAll.cons; walk_at "da"; walk_at "dal"))
local macro_rules | `(tactic| walk_at "ft") => `(tactic| first
  | with_reducible assumption
  | apply Fit.non'
  | apply Fit.bl'
  | (apply Fit.str (n := 20); decide +kernel)
  | (apply Fit.int'; first | decide | omega)
  | (apply Fit.tup'; walk_at "fta")
  | (apply Fit.lst'; walk_at "fta"))
local macro_rules | `(tactic| walk_at "fta") => `(tactic| first
  | apply FitAll.nil'
  | (apply FitAll.cons'; walk_at "ft"; walk_at "fta"))
local macro_rules | `(tactic| walk_at "sm") => `(tactic| first
  | with_reducible assumption
  | with_reducible exact L2.Same.refl _
  | ((with_reducible apply sm_new); (with_reducible assumption); walk_at "sm")
  | ((with_reducible apply sm_same); (with_reducible assumption); walk_at "sm"))
local macro_rules | `(tactic| walk_at "sb") => `(tactic| first
  | with_reducible assumption
  | with_reducible exact SameBut.refl _ _
  | ((with_reducible apply sb_new); (with_reducible assumption); walk_at "sb")
  | ((with_reducible apply sb_but); (with_reducible assumption); walk_at "sb")
  | ((with_reducible apply sb_same); (with_reducible assumption); walk_at "sb"))
local macro_rules | `(tactic| walk_at "sq") => `(tactic| first
  | (refine Or.inl (Or.inl ?_); walk_at "hp")
  | (refine Or.inr (Or.inl (Or.inl ?_)); walk_at "hp")
  | (refine Or.inl (Or.inl (Or.inl ?_)); walk_at "hp")
  | exact (by assumption : ∀ H', SqT _ H' _ _) _
  | exact Or.inr ((by assumption : ∀ H', SqT _ H' _ _) _))
local macro_rules | `(tactic| walk_at "dt") => `(tactic| first
  | with_reducible assumption
  | apply (by assumption : ∀ b, Dat b _ _ _ _)
  | (with_reducible apply Dat.non)
  | (with_reducible apply Dat.bl)
  | ((with_reducible apply Dat.str); first | decide +kernel | exact name_short _)
  | ((with_reducible apply Dat.int); first | decide | omega)
  | ((with_reducible apply Dat.up'); (first | (with_reducible assumption) | apply (by assumption : ∀ b, Dat b _ _ _ _)); omega)
  | ((with_reducible apply Dat.tup); (with_reducible exact upd_same); walk_at "dtl")
  | ((with_reducible apply Dat.lst); (with_reducible exact upd_same); (first | exact rfl | assumption); (first | exact rfl | assumption); walk_at "dtl")
  | ((with_reducible apply Dat.dct); with_reducible exact upd_same)
  | ((with_reducible apply Dat.new); (with_reducible assumption); walk_at "dt")
  | ((with_reducible apply Dat.same'); (with_reducible assumption); walk_at "dt")
  | ((with_reducible apply Dat.but'); (with_reducible assumption); walk_at "pl"; walk_at "dt")
  | ((with_reducible apply Dat.ofE); (with_reducible assumption); omega)
  | ((with_reducible apply Dat.leaf); (with_reducible assumption); assumption; assumption; decide; omega))
local macro_rules | `(tactic| walk_at "dtl") => `(tactic| first
  | apply DatL.nil
  | ((with_reducible apply DatL.cons); walk_at "dt"; walk_at "dtl")
  | with_reducible assumption
  | apply (by assumption : ∀ b, DatL b _ _ _ _)
  | ((with_reducible apply DatL.up'); (first | (with_reducible assumption) | apply (by assumption : ∀ b, DatL b _ _ _ _)); omega)
  | ((with_reducible apply DatL.new); (with_reducible assumption); walk_at "dtl")
  | ((with_reducible apply DatL.same'); (with_reducible assumption); walk_at "dtl")
  | ((with_reducible apply DatL.but'); (with_reducible assumption); walk_at "pl"; walk_at "dtl"))
local macro_rules | `(tactic| walk_at "al") => `(tactic| first
  | exact AllD.nil
  | ((with_reducible apply AllD.cons); walk_at "dt"; omega; walk_at "al")
  | with_reducible assumption
  | ((with_reducible apply AllD.app); walk_at "al"; walk_at "al")
  | ((with_reducible apply AllD.new); (with_reducible assumption); walk_at "al")
  | ((with_reducible apply AllD.same'); (with_reducible assumption); walk_at "al")
  | ((with_reducible apply AllD.but'); (with_reducible assumption); walk_at "pl"; walk_at "al"))
local macro_rules | `(tactic| walk_at "pt") => `(tactic| first
  | with_reducible assumption
  | ((with_reducible apply PatAt.new); (with_reducible assumption); walk_at "pt")
  | ((with_reducible apply PatAt.same'); (with_reducible assumption); walk_at "pt")
  | ((with_reducible apply PatAt.but'); (with_reducible assumption); walk_at "pl"; walk_at "pt"))
local macro_rules | `(tactic| walk_at "db") => `(tactic| first
  | with_reducible assumption
  | ((with_reducible apply DatB.new); (with_reducible assumption); walk_at "db")
  | ((with_reducible apply DatB.same'); (with_reducible assumption); walk_at "db")
  | ((with_reducible apply DatB.but'); (with_reducible assumption); walk_at "pl"; walk_at "db"))
local macro_rules | `(tactic| walk_at "st") => `(tactic| first
  | (with_reducible show upd _ _ _ _ = some _); (walk_at "hp")
  | (with_reducible show L2.Same _ _); (walk_at "sm")
  | (with_reducible refine And.intro ?_ ?_)
  | exact rfl
  | with_reducible assumption
  | (with_reducible show DA _ _ _); (walk_at "da")
  | (with_reducible show PoolAt _ _); (walk_at "pl")
  | (with_reducible show Dat _ _ _ _ _); (walk_at "dt")
  | (with_reducible show Fit _ _ _ _); (walk_at "ft")
  | (with_reducible show PatAt _ _ _); (walk_at "pt")
  | (with_reducible show SameBut _ _ _); (walk_at "sb")
  | (with_reducible show _ ≤ sizeLine); (first | exact len_line _ rfl | exact len_line2 _ _ rfl rfl | decide | omega | exact Nat.le_trans (m := 200000) (by omega) (by decide) | exact Nat.le_trans (m := 200000) (by simp only [List.length_cons, List.length_nil]; omega) (by decide))
  | (with_reducible first | show (_ : Int) ≤ _ | show (_ : Int) < _ | show (_ : Nat) ≤ _ | show (_ : Nat) < _); (first | omega | (simp only [List.length_append]; omega) | (simp only [List.length_cons, List.length_nil]; omega) | (simp only [List.length_append, List.length_cons, List.length_nil]; omega) | exact Int.lt_of_lt_of_le (by assumption) (by decide))
  | exact cut1_not _ _
  | exact List.cons_ne_nil _ _
  | exact fun h => absurd h (List.cons_ne_nil _ _)
  | exact fun h => (h rfl).elim
  | (with_reducible show DatB _ _ _ _); (walk_at "db")
  | (with_reducible show AllD _ _ _ _); (walk_at "al")
  | exact Or.inl ⟨rfl, _, Or.inl (Or.inl (by walk_at "hp"))⟩
  | exact fun h => absurd h.1 (Nat.ne_of_beq_eq_false rfl)
  | exact fun h => absurd h.2 (Nat.ne_of_beq_eq_false rfl)
  | exact at0 _ _
  | exact at1 _ _ _
  | (refine And.intro ?_ ?_)
  | (fail_if_success first | show (∃ _ : Nat → Nat → L2.St → Hp → Prop, _) | show (∃ _ : Nat → Nat → Hp → Prop, _) | show (∃ _ : Nat → L2.St → Hp → Prop, _)); (apply Exists.intro)
  | (refine iteT' rfl ?_)
  | (refine iteF' rfl ?_)
  | walk_at "sq"
  | (with_reducible show _ = some _); (walk_at "hp")
  | intro _
  | assumption)
local macro_rules | `(tactic| walk_at "rd") => `(tactic| repeat walk_at "st")
def spSk (n : Nat) : Sp := fun vs H Q _ => ∃ (v : V) (d : PyData) (k : Int), vs = [v, .int k] ∧ DA H v d ∧ 0 ≤ k ∧ k < n ∧ ∀ H', L2.Same H H' → Q (.bl (isPat k.toNat d)) H'
theorem inS (o : Str) (l : List Str) : inV (.str o) (l.map V.str) = decide (o ∈ l) := by
  induction l with
  | nil => rfl
  | cons x r ih =>
    show ((x == o) || inV (.str o) (r.map V.str)) = _
    rw [ih, Bool.eq_iff_iff]
    simp only [Bool.or_eq_true, beq_iff_eq, decide_eq_true_eq, List.mem_cons]
    exact ⟨fun h => h.imp Eq.symm id, fun h => h.imp Eq.symm id⟩
theorem in2 {o a b : Str} (h : inV (.str o) [.str a, .str b] = true) : o = a ∨ o = b := by
  have h2 : inV (.str o) ([a, b].map V.str) = true := h
  rw [inS] at h2
  have h3 := of_decide_eq_true h2
  simpa using h3
theorem nin2 {o a b : Str} (h : ¬ inV (.str o) [.str a, .str b] = true) : o ≠ a ∧ o ≠ b := by
  have h2 : ¬ inV (.str o) ([a, b].map V.str) = true := h
  rw [inS] at h2
  have h3 := fun z => h2 (decide_eq_true z)
  simpa using h3
theorem dec_ne {o a : Str} (h : o ≠ a) : ¬ decide (V.str o = V.str a) = true := fun z => h (V.str.inj (of_decide_eq_true z))
theorem in_app (x : V) (l m : List V) : inV x (l ++ m) = (inV x l || inV x m) := List.any_append
theorem ways_dbl (o : Str) : (inV (.str o) dbl16 && !inV (.str o) [.str "div", .str "rem"]) = inV (.str o) (ways14.map onm) := by
  show (inV (.str o) ((["add", "sub", "mul", "div", "rem", "and", "or", "xor", "shl", "shr", "lt", "le", "gt", "ge", "eq", "ne"] : List Str).map V.str) && !inV (.str o) ((["div", "rem"] : List Str).map V.str)) = inV (.str o) ((["add", "sub", "mul", "and", "or", "xor", "shl", "shr", "lt", "le", "gt", "ge", "eq", "ne"] : List Str).map V.str)
  rw [inS, inS, inS, Bool.eq_iff_iff]
  simp only [Bool.and_eq_true, Bool.not_eq_true', decide_eq_true_eq, decide_eq_false_iff_not, List.mem_cons, List.not_mem_nil, or_false]
  constructor
  · rintro ⟨h, n⟩
    rcases h with h | h | h | h | h | h | h | h | h | h | h | h | h | h | h | h <;> subst h <;> first | exact absurd (by decide) n | decide
  · intro h
    rcases h with h | h | h | h | h | h | h | h | h | h | h | h | h | h <;> subst h <;> decide
theorem and_word {i : Int} : (wordD (.int i) && rangeD (.int i)) = (decide (0 ≤ i) && decide (i < 1000)) := by
  show (decide (Wd i) && (decide (0 ≤ i) && decide (i ≤ 999))) = _
  rw [Bool.eq_iff_iff]
  simp only [Bool.and_eq_true, decide_eq_true_eq]
  unfold Wd
  omega
theorem wd_two {i : Int} : wordD (.int i) = (decide (0 - 2147483648 ≤ i) && decide (i < 2147483648)) := by
  show decide (Wd i) = _
  rw [Bool.eq_iff_iff]
  simp only [Bool.and_eq_true, decide_eq_true_eq]
  unfold Wd
  omega
theorem word_ni {y : PyData} (h : isInt y = false) : wordD y = false := by
  cases y with
  | int i => cases h
  | _ => rfl
theorem word_b {y : PyData} (h : isBool y = true) : wordD y = false := by
  cases y with
  | bool i => rfl
  | _ => cases h
theorem int_of {y : PyData} (h : ¬ (!isInt y) = true) (h2 : ¬ isBool y = true) : ∃ i, y = .int i := by
  cases y with
  | int i => exact ⟨i, rfl⟩
  | bool b => exact absurd rfl h2
  | _ => exact absurd rfl h
theorem and2 {Q : Bool → Prop} {a b : Bool} (h : Q (a && b)) (ht : a = true) : Q b := by subst ht; exact h
theorem dall_at {H : Hp} : ∀ {vs : List V} {ds : List PyData} {i : Nat} {x : V}, DAll H vs ds → vs[i]? = some x → ∃ d, ds[i]? = some d ∧ DA H x d
  | _, _, _, _, .nil, e => by simp at e
  | _, _, 0, _, .cons r _, e => ⟨_, rfl, by cases e; exact r⟩
  | _, _, i + 1, x, .cons _ t, e => dall_at (i := i) t e
theorem bools_map {ys : List V} {α : Type} {ds : List α} {f : α → Bool} (hl : ys.length = ds.length) (h : ∀ (j : Nat) (y : V), ys[j]? = some y → ∃ d, ds[j]? = some d ∧ y = V.bl (f d)) : ys = (ds.map f).map V.bl := by
  apply List.ext_getElem?
  intro j
  by_cases c : j < ds.length
  · have e : ys[j]? = some ys[j] := List.getElem?_eq_getElem (by omega)
    obtain ⟨d, e1, e2⟩ := h j _ e
    rw [e, e2]
    simp [e1]
  · rw [List.getElem?_eq_none (by omega), List.getElem?_eq_none (by simp; omega)]
section
variable {P : Program} {w : World} {K : PySem.W.Frag} {mg : Str → Option Value} {base : Heap}
theorem st_law_is_sketch (T : Txt K mg) (m : Nat) (g_law_all_ways : Gives P w K mg base CX0 1 "_law_all_ways" spWays14) (g_law_is_sketch : Gives P w K mg base CX0 (1 + m) "_law_is_sketch" (spSk m)) : Gives P w K mg base CX0 (1 + m + 1) "_law_is_sketch" (spSk (m + 1)) := by
  refine gives_fun T.d_law_is_sketch sc_law_is_sketch (fun _ _ _ _ _ _ us hl => match us, hl with | [_, _], _ => rfl) (fun vs H Q E h => ?_) (fun f cdv A outer s H vs Q E hr h => ?_)
  · obtain ⟨v, d, k, rfl, _⟩ := h
    rfl
  · obtain ⟨v, d, k, rfl, hd, h0, hk, q⟩ := h
    refine ⟨_, (pss_cons (ps_if (PW.pt (pw_or (pt_cmpR op_lt (pv 1) pe_int (nomark _)) (pw_or (pt_not (pt_val (pe_callB (call_isiD kb_tuple) (by rfl) T.n_isinstance (by decide +kernel) (pa_cons (pv 0) (pa_cons (pe_bltn (v := .ty "tuple") (by rfl) T.n_tuple (by decide +kernel) rfl) pa_nil))))) (pw_or (pt_cmpR op_lt (pe_callB call_len_seq (by rfl) T.n_len (by decide +kernel) (pa_cons (pv 0) pa_nil)) pe_int (nomark _)) (pw_or1 (pt_not (pt_val (pe_callB (call_isiD kb_str) (by rfl) T.n_isinstance (by decide +kernel) (pa_cons (pe_ix ix_tup (pv 0) pe_int (fun _ _ => rfl)) (pa_cons (pe_bltn (v := .ty "str") (by rfl) T.n_str (by decide +kernel) rfl) pa_nil)))))))))) (pss_one (ps_ret pe_bl)) pss_nil)
      (pss_cons (ps_if (pt_cmpR op_in_seq (pe_ix ix_tup (pv 0) pe_int (fun _ _ => rfl)) (pe_tup (pa_cons pe_str (pa_cons pe_str pa_nil))) (by rfl)) (pss_cons (ps_if (PW.pt (pw_or (pt_cmpR op_ne (pe_callB call_len_seq (by rfl) T.n_len (by decide +kernel) (pa_cons (pv 0) pa_nil)) pe_int (nomark _)) (pw_or (pt_not (pt_val (pe_callB (call_isiD kb_int) (by rfl) T.n_isinstance (by decide +kernel) (pa_cons (pe_ix ix_tup (pv 0) pe_int (fun _ _ => rfl)) (pa_cons (pe_bltn (v := .ty "int") (by rfl) T.n_int (by decide +kernel) rfl) pa_nil))))) (pw_or1 (pt_val (pe_callB (call_isiD kb_bool) (by rfl) T.n_isinstance (by decide +kernel) (pa_cons (pe_ix ix_tup (pv 0) pe_int (fun _ _ => rfl)) (pa_cons (pe_bltn (v := .ty "bool") (by rfl) T.n_bool (by decide +kernel) rfl) pa_nil)))))))) (pss_one (ps_ret pe_bl)) pss_nil)
      (pss_one (ps_ret (pe_ifExp (pt_cmpR op_eq (pe_ix ix_tup (pv 0) pe_int (fun _ _ => rfl)) pe_str (nomark _)) (pe_chain op_le op_lt pe_int (pe_ix ix_tup (pv 0) pe_int (fun _ _ => rfl)) pe_int) (pe_chain op_le op_lt (pe_op op_sub pe_int (pe_powc 2147483648 ⟨by decide, by decide, by decide⟩ (by decide))) (pe_ix ix_tup (pv 0) pe_int (fun _ _ => rfl)) (pe_powc 2147483648 ⟨by decide, by decide, by decide⟩ (by decide))))))) pss_nil)
      (pss_cons (ps_if (pt_cmpR op_ne (pe_callB call_len_seq (by rfl) T.n_len (by decide +kernel) (pa_cons (pv 0) pa_nil)) (pe_ifExp (pt_cmpR op_in_seq (pe_ix ix_tup (pv 0) pe_int (fun _ _ => rfl)) (pe_tup (pa_cons pe_str (pa_cons pe_str pa_nil))) (by rfl)) pe_int pe_int) (nomark _)) (pss_one (ps_ret pe_bl)) pss_nil)
      (pss_cons (ps_if (pt_cmpR op_notIn_seq (pe_ix ix_tup (pv 0) pe_int (fun _ _ => rfl)) (pe_op op_cat (pe_own0 g_law_all_ways (hr.mono (by omega)) (by rfl) pass0) (pe_lst (pa_cons pe_str (pa_cons pe_str pa_nil)))) (by rfl)) (pss_one (ps_ret pe_bl)) pss_nil)
      (pss_one (ps_ret (pe_callB (cr_all rfl) (by rfl) T.n_all (by decide +kernel) (pa_cons (pe_lc (own := [("_law_part", 2)]) rfl sc_law_is_sketch.nd (pi_tup (pe_slice sl_tup (pv 0) (po_some pe_int) po_none)) (blkOk_by (N := ["_law_thing", "_law_deep", "_law_part"]) (sc := defScope s_law_is_sketch) (by decide +kernel)) (fun _ _ _ _ _ => (pg_name (i := 2) sc_law_is_sketch.nd rfl (Or.inl rfl))) (fun _ _ _ _ _ => pts_nil) (fun _ _ _ _ _ => (pe_own g_law_is_sketch (hr.mono (by omega)) (by rfl) pass0 (pa_cons (pv 2) (pa_cons (pe_op op_sub (pv 1) pe_int) pa_nil))))) pa_nil)))))))), ?_⟩
    obtain ⟨n, rfl⟩ : ∃ n : Nat, k = (n : Int) := ⟨k.toNat, by omega⟩
    rw [Int.toNat_natCast] at q
    cases n with
    | zero =>
      walk_at "rd"
      exact ans q (isPat_zero d).symm (by walk_at "sm")
    | succ k =>
      have hk1 : (((k + 1 : Nat) : Int) - 1).toNat = k := by omega
      walk_at "rd"
      refine ite2 (fun c => ?_) (fun c => ?_)
      · walk_at "rd"
        exact ans q (isPat_nt _ (nots c)).symm (by walk_at "sm")
      obtain ⟨ds, rfl⟩ := tup_of c
      clear c
      have hd0 := hd
      cases hd with
      | tup ha hds =>
        match ds, hds with
        | [], .nil =>
          walk_at "rd"
          exact ans q (isPat_none _).symm (by walk_at "sm")
        | [x], .cons h1 .nil =>
          walk_at "rd"
          exact ans q (isPat_one _ _).symm (by walk_at "sm")
        | [x, y], .cons h1 (.cons h2 .nil) =>
          walk_at "rd"
          refine ite2 (fun c => ?_) (fun c => ?_)
          · walk_at "rd"
            exact ans q (isPat_ns2 _ (nots c)).symm (by walk_at "sm")
          obtain ⟨o, rfl⟩ := str_of c
          clear c
          cases h1
          rw [isPat_w] at q
          walk_at "rd"
          refine ite2 (fun c => ?_) (fun c => ?_)
          · have hw : ∀ H', L2.Same H H' → Q (.bl (if decide (V.str o = V.str "unknown") then (wordD y && rangeD y) else wordD y)) H' := by
              rcases in2 c with e | e
              · subst e
                exact q
              · subst e
                exact q
            walk_at "rd"
            refine ite2 (fun c2 => ?_) (fun c2 => ?_)
            · walk_at "rd"
              exact ans hw (by rw [word_ni (nots c2)]; split <;> rfl) (by walk_at "sm")
            walk_at "rd"
            refine ite2 (fun c3 => ?_) (fun c3 => ?_)
            · walk_at "rd"
              exact ans hw (by rw [word_b c3]; split <;> rfl) (by walk_at "sm")
            obtain ⟨i, rfl⟩ := int_of c2 c3
            cases h2
            walk_at "rd"
            refine ite2 (fun c4 => ?_) (fun c4 => ?_)
            · rw [if_pos c4, and_word] at hw
              walk_at "rd"
              refine ite2 (fun c5 => ?_) (fun c5 => ?_)
              · walk_at "rd"
                exact ans hw (by rw [c5]; rfl) (by walk_at "sm")
              · exact ans hw (by rw [Bool.eq_false_iff.mpr c5]; rfl) (by walk_at "sm")
            · rw [if_neg c4, wd_two] at hw
              walk_at "rd"
              refine ite2 (fun c5 => ?_) (fun c5 => ?_)
              · walk_at "rd"
                exact ans hw (by rw [c5]; rfl) (by walk_at "sm")
              · exact ans hw (by rw [Bool.eq_false_iff.mpr c5]; rfl) (by walk_at "sm")
          · obtain ⟨n1, n2⟩ := nin2 c
            rw [if_neg (dec_ne n1), if_neg (dec_ne n2)] at q
            walk_at "rd"
            refine ite2 (fun c2 => ?_) (fun c2 => ?_)
            · have hdt : DAll H _ [y] := .cons h2 .nil
              have e1 : inV (.str o) (ways14.map onm ++ [.str "neg", .str "not"]) = true := by
                rw [in_app, show inV (.str o) [.str "neg", .str "not"] = true from c2, Bool.or_true]
              rw [show inV (.str o) [.str "neg", .str "not"] = true from c2] at q
              walk_at "rd"
              refine iteF' (by show (!inV (.str o) (ways14.map onm ++ [.str "neg", .str "not"])) = false; rw [e1]; rfl) ?_
              walk_at "rd"
              refine lc_mapT (G := fun i yy => ∃ d, ([y] : List PyData)[i]? = some d ∧ yy = .bl (isPat k d)) (.inl (.inl upd_same)) (by assumption) (by show 1 ≤ 1000; decide) (fun _ => rfl) (fun i x H1 R hx s1 r => ?_) (fun H1 ys s1 hd1 hl hg => ?_)
              · obtain ⟨d, hdi, hdx⟩ := dall_at hdt hx
                have hdx1 : DA H1 x d := by
                  refine DA.same ?_ s1
                  walk_at "da"
                walk_at "rd"
                exact r _ _ (by walk_at "sm") ⟨d, hdi, by rw [hk1]⟩
              · have ey := bools_map (f := isPat k) (ds := [y]) hl hg
                subst ey
                walk_at "rd"
                exact ans q (by simp) (by walk_at "sm")
            · walk_at "rd"
              exact ans q (by rw [show inV (.str o) [.str "neg", .str "not"] = false from Bool.eq_false_iff.mpr c2]; rfl) (by walk_at "sm")
        | [x, y, z], .cons h1 (.cons h2 (.cons h3 .nil)) =>
          walk_at "rd"
          refine ite2 (fun c => ?_) (fun c => ?_)
          · walk_at "rd"
            exact ans q (isPat_ns3 _ (nots c)).symm (by walk_at "sm")
          obtain ⟨o, rfl⟩ := str_of c
          clear c
          cases h1
          rw [isPat_b, ways_dbl] at q
          walk_at "rd"
          refine ite2 (fun c => ?_) (fun c => ?_)
          · walk_at "rd"
            rcases in2 c with e | e <;> (subst e; exact ans q rfl (by walk_at "sm"))
          walk_at "rd"
          refine ite2 (fun c2 => ?_) (fun c2 => ?_)
          · walk_at "rd"
            rcases in2 c2 with e | e <;> (subst e; exact ans q rfl (by walk_at "sm"))
          walk_at "rd"
          refine ite2 (fun c3 => ?_) (fun c3 => ?_)
          · have e1 := nots c3
            rw [in_app] at e1
            rw [(Bool.or_eq_false_iff.mp e1).1] at q
            walk_at "rd"
            exact ans q rfl (by walk_at "sm")
          have hdt : DAll H _ [y, z] := .cons h2 (.cons h3 .nil)
          have e1 : inV (.str o) (ways14.map onm) = true := by
            have e2 : inV (.str o) (ways14.map onm ++ [.str "neg", .str "not"]) = true := by
              cases z : inV (.str o) (ways14.map onm ++ [.str "neg", .str "not"])
              · exact absurd (by show (!inV (.str o) (ways14.map onm ++ [.str "neg", .str "not"])) = true; rw [z]; rfl) c3
              · rfl
            rw [in_app, show inV (.str o) [.str "neg", .str "not"] = false from Bool.eq_false_iff.mpr c2, Bool.or_false] at e2
            exact e2
          rw [e1] at q
          walk_at "rd"
          refine lc_mapT (G := fun i yy => ∃ d, ([y, z] : List PyData)[i]? = some d ∧ yy = .bl (isPat k d)) (.inl (.inl upd_same)) (by assumption) (by show 2 ≤ 1000; decide) (fun _ => rfl) (fun i x H1 R hx s1 r => ?_) (fun H1 ys s1 hd1 hl hg => ?_)
          · obtain ⟨d, hdi, hdx⟩ := dall_at hdt hx
            have hdx1 : DA H1 x d := by
              refine DA.same ?_ s1
              walk_at "da"
            walk_at "rd"
            exact r _ _ (by walk_at "sm") ⟨d, hdi, by rw [hk1]⟩
          · have ey := bools_map (f := isPat k) (ds := [y, z]) hl hg
            subst ey
            walk_at "rd"
            exact ans q (by simp) (by walk_at "sm")
        | x :: y :: z :: u :: r, .cons h1 (.cons h2 (.cons h3 (.cons h4 h5))) =>
          rw [isPat_long] at q
          walk_at "rd"
          refine ite2 (fun c => ?_) (fun c => ?_)
          · walk_at "rd"
            exact ans q rfl (by walk_at "sm")
          obtain ⟨o, rfl⟩ := str_of c
          clear c
          cases h1
          walk_at "rd"
          refine ite2 (fun c => ?_) (fun c => ?_)
          · walk_at "rd"
            exact ans q rfl (by walk_at "sm")
          walk_at "rd"
          refine ite2 (fun c2 => ?_) (fun c2 => ?_)
          · walk_at "rd"
            exact ans q rfl (by walk_at "sm")
          · walk_at "rd"
            exact ans q rfl (by walk_at "sm")
end
end Cb

end

section
set_option maxRecDepth 100000
set_option maxHeartbeats 4000000
namespace Cb
open PySem PySem.Spec PyProof.Rows L2
local macro_rules | `(tactic| walk_at "pl") => `(tactic| first
  | with_reducible assumption
  | ((with_reducible apply PoolAt.new); (with_reducible assumption); walk_at "pl")
  | ((with_reducible apply PoolAt.same'); (with_reducible assumption); walk_at "pl"))
local macro_rules | `(tactic| walk_at "hp") => `(tactic| first
  | with_reducible assumption
  | with_reducible exact upd_same
  | ((with_reducible apply upd_new); (with_reducible assumption); walk_at "hp")
  | ((with_reducible apply hp_same); (with_reducible assumption); walk_at "hp")
  | ((with_reducible apply but_tup); (with_reducible assumption); walk_at "pl"; walk_at "hp")
  | ((with_reducible apply but_lst); (with_reducible assumption); walk_at "pl"; walk_at "hp"; first | exact rfl | assumption | exact npool_app (by omega)))
local macro_rules | `(tactic| walk_at "da") => `(tactic| first
  | with_reducible assumption
  | with_reducible exact DA.int _
  | with_reducible exact DA.str _
  | with_reducible exact DA.bl _
  | with_reducible exact DA.non
  | ((with_reducible apply DA.tup); (with_reducible exact upd_same); walk_at "dal")
  | ((with_reducible apply DA.lst); (with_reducible exact upd_same); exact rfl; exact rfl; walk_at "dal")
  | with_reducible exact DA.dct upd_same
  | ((with_reducible apply DA.new); (with_reducible assumption); walk_at "da")
  | ((with_reducible apply DA.same'); (with_reducible assumption); walk_at "da")
  | ((with_reducible apply DA.but'); (with_reducible assumption); walk_at "pl"; walk_at "da"))
local macro_rules | `(tactic| walk_at "dal") => `(tactic| first
  | exact DAll.nil
  | (apply DAll.cons; walk_at "da"; walk_at "dal"))
local macro_rules | `(tactic| walk_at "ft") => `(tactic| first
  | with_reducible assumption
  | apply Fit.non'
  | apply Fit.bl'
  | (apply Fit.str (n := 20); decide +kernel)
  | (apply Fit.int'; first | decide | omega)
  | (apply Fit.tup'; walk_at "fta")
  | (apply Fit.lst'; walk_at "fta"))
local macro_rules | `(tactic| walk_at "fta") => `(tactic| first
  | apply FitAll.nil'
  | (apply FitAll.cons'; walk_at "ft"; walk_at "fta"))
local macro_rules | `(tactic| walk_at "sm") => `(tactic| first
  | with_reducible assumption
  | with_reducible exact L2.Same.refl _
  | ((with_reducible apply sm_new); (with_reducible assumption); walk_at "sm")
  | ((with_reducible apply sm_same); (with_reducible assumption); walk_at "sm"))
local macro_rules | `(tactic| walk_at "sb") => `(tactic| first
  | with_reducible assumption
  | with_reducible exact SameBut.refl _ _
  | ((with_reducible apply sb_new); (with_reducible assumption); walk_at "sb")
  | ((with_reducible apply sb_but); (with_reducible assumption); walk_at "sb")
  | ((with_reducible apply sb_same); (with_reducible assumption); walk_at "sb"))
local macro_rules | `(tactic| walk_at "sq") => `(tactic| first
  | (refine Or.inl (Or.inl ?_); walk_at "hp")
  | (refine Or.inr (Or.inl (Or.inl ?_)); walk_at "hp")
  | (refine Or.inl (Or.inl (Or.inl ?_)); walk_at "hp")
  | exact (by assumption : ∀ H', SqT _ H' _ _) _
  | exact Or.inr ((by assumption : ∀ H', SqT _ H' _ _) _))
local macro_rules | `(tactic| walk_at "dt") => `(tactic| first
  | with_reducible assumption
  | apply (by assumption : ∀ b, Dat b _ _ _ _)
  | (with_reducible apply Dat.non)
  | (with_reducible apply Dat.bl)
  | ((with_reducible apply Dat.str); first | decide +kernel | exact name_short _)
  | ((with_reducible apply Dat.int); first | decide | omega)
  | ((with_reducible apply Dat.up'); (first | (with_reducible assumption) | apply (by assumption : ∀ b, Dat b _ _ _ _)); omega)
  | ((with_reducible apply Dat.tup); (with_reducible exact upd_same); walk_at "dtl")
  | ((with_reducible apply Dat.lst); (with_reducible exact upd_same); (first | exact rfl | assumption); (first | exact rfl | assumption); walk_at "dtl")
  | ((with_reducible apply Dat.dct); with_reducible exact upd_same)
  | ((with_reducible apply Dat.new); (with_reducible assumption); walk_at "dt")
  | ((with_reducible apply Dat.same'); (with_reducible assumption); walk_at "dt")
  | ((with_reducible apply Dat.but'); (with_reducible assumption); walk_at "pl"; walk_at "dt")
  | ((with_reducible apply Dat.ofE); (with_reducible assumption); omega)
  | ((with_reducible apply Dat.leaf); (with_reducible assumption); assumption; assumption; decide; omega))
local macro_rules | `(tactic| walk_at "dtl") => `(tactic| first
  | apply DatL.nil
  | ((with_reducible apply DatL.cons); walk_at "dt"; walk_at "dtl")
  | with_reducible assumption
  | apply (by assumption : ∀ b, DatL b _ _ _ _)
  | ((with_reducible apply DatL.up'); (first | (with_reducible assumption) | apply (by assumption : ∀ b, DatL b _ _ _ _)); omega)
  | ((with_reducible apply DatL.new); (with_reducible assumption); walk_at "dtl")
  | ((with_reducible apply DatL.same'); (with_reducible assumption); walk_at "dtl")
  | ((with_reducible apply DatL.but'); (with_reducible assumption); walk_at "pl"; walk_at "dtl"))
local macro_rules | `(tactic| walk_at "al") => `(tactic| first
  | exact AllD.nil
  | ((with_reducible apply AllD.cons); walk_at "dt"; omega; walk_at "al")
  | with_reducible assumption
  | ((with_reducible apply AllD.app); walk_at "al"; walk_at "al")
  | ((with_reducible apply AllD.new); (with_reducible assumption); walk_at "al")
  | ((with_reducible apply AllD.same'); (with_reducible assumption); walk_at "al")
  | ((with_reducible apply AllD.but'); (with_reducible assumption); walk_at "pl"; walk_at "al"))
local macro_rules | `(tactic| walk_at "pt") => `(tactic| first
  | with_reducible assumption
  | ((with_reducible apply PatAt.new); (with_reducible assumption); walk_at "pt")
  | ((with_reducible apply PatAt.same'); (with_reducible assumption); walk_at "pt")
  | ((with_reducible apply PatAt.but'); (with_reducible assumption); walk_at "pl"; walk_at "pt"))
local macro_rules | `(tactic| walk_at "db") => `(tactic| first
  | with_reducible assumption
  | ((with_reducible apply DatB.new); (with_reducible assumption); walk_at "db")
  | ((with_reducible apply DatB.same'); (with_reducible assumption); walk_at "db")
  | ((with_reducible apply DatB.but'); (with_reducible assumption); walk_at "pl"; walk_at "db"))
local macro_rules | `(tactic| walk_at "st") => `(tactic| first
  | (with_reducible show upd _ _ _ _ = some _); (walk_at "hp")
  | (with_reducible show L2.Same _ _); (walk_at "sm")
  | (with_reducible refine And.intro ?_ ?_)
  | exact rfl
  | with_reducible assumption
  | (with_reducible show DA _ _ _); (walk_at "da")
  | (with_reducible show PoolAt _ _); (walk_at "pl")
  | (with_reducible show Dat _ _ _ _ _); (walk_at "dt")
  | (with_reducible show Fit _ _ _ _); (walk_at "ft")
  | (with_reducible show PatAt _ _ _); (walk_at "pt")
  | (with_reducible show SameBut _ _ _); (walk_at "sb")
  | (with_reducible show _ ≤ sizeLine); (first | exact len_line _ rfl | exact len_line2 _ _ rfl rfl | decide | omega | exact Nat.le_trans (m := 200000) (by omega) (by decide) | exact Nat.le_trans (m := 200000) (by simp only [List.length_cons, List.length_nil]; omega) (by decide))
  | (with_reducible first | show (_ : Int) ≤ _ | show (_ : Int) < _ | show (_ : Nat) ≤ _ | show (_ : Nat) < _); (first | omega | (simp only [List.length_append]; omega) | (simp only [List.length_cons, List.length_nil]; omega) | (simp only [List.length_append, List.length_cons, List.length_nil]; omega) | exact Int.lt_of_lt_of_le (by assumption) (by decide))
  | exact cut1_not _ _
  | exact List.cons_ne_nil _ _
  | exact fun h => absurd h (List.cons_ne_nil _ _)
  | exact fun h => (h rfl).elim
  | (with_reducible show DatB _ _ _ _); (walk_at "db")
  | (with_reducible show AllD _ _ _ _); (walk_at "al")
  | exact Or.inl ⟨rfl, _, Or.inl (Or.inl (by walk_at "hp"))⟩
  | exact fun h => absurd h.1 (Nat.ne_of_beq_eq_false rfl)
  | exact fun h => absurd h.2 (Nat.ne_of_beq_eq_false rfl)
  | exact at0 _ _
  | exact at1 _ _ _
  | (refine And.intro ?_ ?_)
  | (fail_if_success first | show (∃ _ : Nat → Nat → L2.St → Hp → Prop, _) | show (∃ _ : Nat → Nat → Hp → Prop, _) | show (∃ _ : Nat → L2.St → Hp → Prop, _)); (apply Exists.intro)
  | (refine iteT' rfl ?_)
  | (refine iteF' rfl ?_)
  | walk_at "sq"
  | (with_reducible show _ = some _); (walk_at "hp")
  | intro _
  | assumption)
local macro_rules | `(tactic| walk_at "rd") => `(tactic| repeat walk_at "st")
def spTold : Sp := fun vs H Q _ => ∃ (v : V) (b : Bool) (n : Nat), vs = [v] ∧ Dat b n 400 H v ∧ n ≤ 100000 ∧ ∀ H', L2.Same H H' → Q (.bl true) H'
section
variable {P : Program} {w : World} {K : PySem.W.Frag} {mg : Str → Option Value} {base : Heap}
theorem gk_is_pattern (T : Txt K mg) (g_is_pattern_below : Gives P w K mg base CX0 15 "is_pattern_below" (spBelowD 13)) : GivesK P w K mg base CX0 16 "is_pattern" ["value"] spIsPatD := by
  refine givesK_fun T.d_is_pattern sc_is_pattern (fun _ _ _ _ _ _ us ws h1 h2 => match us, ws, h1, h2 with | [], [_], _, _ => rfl | (_ :: _), [_], _, h2 => absurd h2 (by simp)) (fun vs H Q E h => ?_) (fun f cdv A outer s H vs Q E hr h => ?_)
  · obtain ⟨v, d, rfl, _⟩ := h
    rfl
  · obtain ⟨v, d, rfl, hd, q⟩ := h
    refine ⟨_, (pss_one (ps_ret (pe_own g_is_pattern_below (hr.mono (by decide)) (by rfl) pass0 (pa_cons (pv 0) (pa_cons (pe_gv (by rfl) T.c_MOST_DEPTH) pa_nil))))), ?_⟩
    walk_at "rd"
    exact ans q rfl (by walk_at "sm")
theorem g_law_told_right (T : Txt K mg) (gk_is_pattern : GivesK P w K mg base CX0 16 "is_pattern" ["value"] spIsPatD) (g_is_pattern : Gives P w K mg base CX0 16 "is_pattern" spIsPatD) (g_law_is_sketch : Gives P w K mg base CX0 14 "_law_is_sketch" (spSk 13)) : GivesG P w K mg base CX0 17 "_law_told_right" spTold := by
  refine givesG_fun T.d_law_told_right sc_law_told_right (fun _ _ _ _ _ _ us hl => match us, hl with | [_], _ => rfl) (fun vs H Q E h => ?_) (fun f cdv A outer s H vs Q E hgd hr h => ?_)
  · obtain ⟨v, b, n, rfl, _⟩ := h
    rfl
  · obtain ⟨v, b, n, rfl, ⟨d, hd, hf⟩, hn, q⟩ := h
    refine ⟨_, (pss_cons (ps_set (i := 1) sc_law_told_right.nd rfl (Or.inl rfl) (pe_callB (call_reprD (m := 400) hgd (unitsM hr (by decide))) (by rfl) T.n_repr (by decide +kernel) (pa_cons (pv 0) pa_nil)))
      (pss_cons (ps_set (i := 2) sc_law_told_right.nd rfl (Or.inl rfl) (pe_own g_law_is_sketch (hr.mono (by decide)) (by rfl) pass0 (pa_cons (pv 0) (pa_cons pe_int pa_nil))))
      (pss_one (ps_ret (pe_and (pe_cmpR op_eq (pe_callB (call_reprD (m := 400) hgd (unitsM hr (by decide))) (by rfl) T.n_repr (by decide +kernel) (pa_cons (pe_lst (pa_cons (pe_own g_is_pattern (hr.mono (by decide)) (by rfl) pass0 (pa_cons (pv 0) pa_nil)) (pa_cons (pe_ownK0 gk_is_pattern (hr.mono (by decide)) (by rfl) pass0 (pk_cons (pv 0) pk_nil)) pa_nil))) pa_nil)) (pe_callB (call_reprD (m := 400) hgd (unitsM hr (by decide))) (by rfl) T.n_repr (by decide +kernel) (pa_cons (pe_lst (pa_cons (pv 2) (pa_cons (pv 2) pa_nil))) pa_nil)) (nomark _)) (pe_one (pe_cmpR op_eq (pe_callB (call_reprD (m := 400) hgd (unitsM hr (by decide))) (by rfl) T.n_repr (by decide +kernel) (pa_cons (pv 0) pa_nil)) (pv 1) (nomark _)))))))), ?_⟩
    walk_at "rd"
    refine iteT' (eq_true rfl) ?_
    walk_at "rd"
    exact ans q (eq_true rfl) (by walk_at "sm")
end
end Cb

end

section
set_option maxRecDepth 100000
set_option maxHeartbeats 4000000
namespace Cb
open PySem PySem.Spec PyProof.Rows L2
local macro_rules | `(tactic| walk_at "pl") => `(tactic| first
  | with_reducible assumption
  | ((with_reducible apply PoolAt.new); (with_reducible assumption); walk_at "pl")
  | ((with_reducible apply PoolAt.same'); (with_reducible assumption); walk_at "pl"))
local macro_rules | `(tactic| walk_at "hp") => `(tactic| first
  | with_reducible assumption
  | with_reducible exact upd_same
  | ((with_reducible apply upd_new); (with_reducible assumption); walk_at "hp")
  | ((with_reducible apply hp_same); (with_reducible assumption); walk_at "hp")
  | ((with_reducible apply but_tup); (with_reducible assumption); walk_at "pl"; walk_at "hp")
  | ((with_reducible apply but_lst); (with_reducible assumption); walk_at "pl"; walk_at "hp"; first | exact rfl | assumption | exact npool_app (by omega)))
local macro_rules | `(tactic| walk_at "da") => `(tactic| first
  | with_reducible assumption
  | with_reducible exact DA.int _
  | with_reducible exact DA.str _
  | with_reducible exact DA.bl _
  | with_reducible exact DA.non
  | ((with_reducible apply DA.tup); (with_reducible exact upd_same); walk_at "dal")
  | ((with_reducible apply DA.lst); (with_reducible exact upd_same); exact rfl; exact rfl; walk_at "dal")
  | with_reducible exact DA.dct upd_same
  | ((with_reducible apply DA.new); (with_reducible assumption); walk_at "da")
  | ((with_reducible apply DA.same'); (with_reducible assumption); walk_at "da")
  | ((with_reducible apply DA.but'); (with_reducible assumption); walk_at "pl"; walk_at "da"))
local macro_rules | `(tactic| walk_at "dal") => `(tactic| first
  | exact DAll.nil
  | (apply DAll.cons; walk_at "da"; walk_at "dal"))
local macro_rules | `(tactic| walk_at "ft") => `(tactic| first
  | with_reducible assumption
  | apply Fit.non'
  | apply Fit.bl'
  | (apply Fit.str (n := 20); decide +kernel)
  | (apply Fit.int'; first | decide | omega)
  | (apply Fit.tup'; walk_at "fta")
  | (apply Fit.lst'; walk_at "fta"))
local macro_rules | `(tactic| walk_at "fta") => `(tactic| first
  | apply FitAll.nil'
  | (apply FitAll.cons'; walk_at "ft"; walk_at "fta"))
local macro_rules | `(tactic| walk_at "sm") => `(tactic| first
  | with_reducible assumption
  | with_reducible exact L2.Same.refl _
  | ((with_reducible apply sm_new); (with_reducible assumption); walk_at "sm")
  | ((with_reducible apply sm_same); (with_reducible assumption); walk_at "sm"))
local macro_rules | `(tactic| walk_at "sb") => `(tactic| first
  | with_reducible assumption
  | with_reducible exact SameBut.refl _ _
  | ((with_reducible apply sb_new); (with_reducible assumption); walk_at "sb")
  | ((with_reducible apply sb_but); (with_reducible assumption); walk_at "sb")
  | ((with_reducible apply sb_same); (with_reducible assumption); walk_at "sb"))
local macro_rules | `(tactic| walk_at "sq") => `(tactic| first
  | (refine Or.inl (Or.inl ?_); walk_at "hp")
  | (refine Or.inr (Or.inl (Or.inl ?_)); walk_at "hp")
  | (refine Or.inl (Or.inl (Or.inl ?_)); walk_at "hp")
  | exact (by assumption : ∀ H', SqT _ H' _ _) _
  | exact Or.inr ((by assumption : ∀ H', SqT _ H' _ _) _))
local macro_rules | `(tactic| walk_at "dt") => `(tactic| first
  | with_reducible assumption
  | apply (by assumption : ∀ b, Dat b _ _ _ _)
  | (with_reducible apply Dat.non)
  | (with_reducible apply Dat.bl)
  | ((with_reducible apply Dat.str); first | decide +kernel | exact name_short _)
  | ((with_reducible apply Dat.int); first | decide | omega)
  | ((with_reducible apply Dat.up'); (first | (with_reducible assumption) | apply (by assumption : ∀ b, Dat b _ _ _ _)); omega)
  | ((with_reducible apply Dat.tup); (with_reducible exact upd_same); walk_at "dtl")
  | ((with_reducible apply Dat.lst); (with_reducible exact upd_same); (first | exact rfl | assumption); (first | exact rfl | assumption); walk_at "dtl")
  | ((with_reducible apply Dat.dct); with_reducible exact upd_same)
  | ((with_reducible apply Dat.new); (with_reducible assumption); walk_at "dt")
  | ((with_reducible apply Dat.same'); (with_reducible assumption); walk_at "dt")
  | ((with_reducible apply Dat.but'); (with_reducible assumption); walk_at "pl"; walk_at "dt")
  | ((with_reducible apply Dat.ofE); (with_reducible assumption); omega)
  | ((with_reducible apply Dat.leaf); (with_reducible assumption); assumption; assumption; decide; omega))
local macro_rules | `(tactic| walk_at "dtl") => `(tactic| first
  | apply DatL.nil
  | ((with_reducible apply DatL.cons); walk_at "dt"; walk_at "dtl")
  | with_reducible assumption
  | apply (by assumption : ∀ b, DatL b _ _ _ _)
  | ((with_reducible apply DatL.up'); (first | (with_reducible assumption) | apply (by assumption : ∀ b, DatL b _ _ _ _)); omega)
  | ((with_reducible apply DatL.new); (with_reducible assumption); walk_at "dtl")
  | ((with_reducible apply DatL.same'); (with_reducible assumption); walk_at "dtl")
  | ((with_reducible apply DatL.but'); (with_reducible assumption); walk_at "pl"; walk_at "dtl"))
local macro_rules | `(tactic| walk_at "al") => `(tactic| first
  | exact AllD.nil
  | ((with_reducible apply AllD.cons); walk_at "dt"; omega; walk_at "al")
  | with_reducible assumption
  | ((with_reducible apply AllD.app); walk_at "al"; walk_at "al")
  | ((with_reducible apply AllD.new); (with_reducible assumption); walk_at "al")
  | ((with_reducible apply AllD.same'); (with_reducible assumption); walk_at "al")
  | ((with_reducible apply AllD.but'); (with_reducible assumption); walk_at "pl"; walk_at "al"))
local macro_rules | `(tactic| walk_at "pt") => `(tactic| first
  | with_reducible assumption
  | ((with_reducible apply PatAt.new); (with_reducible assumption); walk_at "pt")
  | ((with_reducible apply PatAt.same'); (with_reducible assumption); walk_at "pt")
  | ((with_reducible apply PatAt.but'); (with_reducible assumption); walk_at "pl"; walk_at "pt"))
local macro_rules | `(tactic| walk_at "db") => `(tactic| first
  | with_reducible assumption
  | ((with_reducible apply DatB.new); (with_reducible assumption); walk_at "db")
  | ((with_reducible apply DatB.same'); (with_reducible assumption); walk_at "db")
  | ((with_reducible apply DatB.but'); (with_reducible assumption); walk_at "pl"; walk_at "db"))
local macro_rules | `(tactic| walk_at "st") => `(tactic| first
  | (with_reducible show upd _ _ _ _ = some _); (walk_at "hp")
  | (with_reducible show L2.Same _ _); (walk_at "sm")
  | (with_reducible refine And.intro ?_ ?_)
  | exact rfl
  | with_reducible assumption
  | (with_reducible show DA _ _ _); (walk_at "da")
  | (with_reducible show PoolAt _ _); (walk_at "pl")
  | (with_reducible show Dat _ _ _ _ _); (walk_at "dt")
  | (with_reducible show Fit _ _ _ _); (walk_at "ft")
  | (with_reducible show PatAt _ _ _); (walk_at "pt")
  | (with_reducible show SameBut _ _ _); (walk_at "sb")
  | (with_reducible show _ ≤ sizeLine); (first | exact len_line _ rfl | exact len_line2 _ _ rfl rfl | decide | omega | exact Nat.le_trans (m := 200000) (by omega) (by decide) | exact Nat.le_trans (m := 200000) (by simp only [List.length_cons, List.length_nil]; omega) (by decide))
  | (with_reducible first | show (_ : Int) ≤ _ | show (_ : Int) < _ | show (_ : Nat) ≤ _ | show (_ : Nat) < _); (first | omega | (simp only [List.length_append]; omega) | (simp only [List.length_cons, List.length_nil]; omega) | (simp only [List.length_append, List.length_cons, List.length_nil]; omega) | exact Int.lt_of_lt_of_le (by assumption) (by decide))
  | exact cut1_not _ _
  | exact List.cons_ne_nil _ _
  | exact fun h => absurd h (List.cons_ne_nil _ _)
  | exact fun h => (h rfl).elim
  | (with_reducible show DatB _ _ _ _); (walk_at "db")
  | (with_reducible show AllD _ _ _ _); (walk_at "al")
  | exact Or.inl ⟨rfl, _, Or.inl (Or.inl (by walk_at "hp"))⟩
  | exact fun h => absurd h.1 (Nat.ne_of_beq_eq_false rfl)
  | exact fun h => absurd h.2 (Nat.ne_of_beq_eq_false rfl)
  | exact at0 _ _
  | exact at1 _ _ _
  | (refine And.intro ?_ ?_)
  | (fail_if_success first | show (∃ _ : Nat → Nat → L2.St → Hp → Prop, _) | show (∃ _ : Nat → Nat → Hp → Prop, _) | show (∃ _ : Nat → L2.St → Hp → Prop, _)); (apply Exists.intro)
  | (refine iteT' rfl ?_)
  | (refine iteF' rfl ?_)
  | walk_at "sq"
  | (with_reducible show _ = some _); (walk_at "hp")
  | intro _
  | assumption)
local macro_rules | `(tactic| walk_at "rd") => `(tactic| repeat walk_at "st")
def spDepth (n : Nat) : Sp := fun vs H Q _ => ∃ (v : V) (p : Pat), vs = [v] ∧ PatAt H v p ∧ p.ok 1000 ∧ p.depth ≤ n ∧ ∀ H', L2.Same H H' → Q (.int (p.depth : Int)) H'
def spOdd : Sp := fun vs H Q _ => ∃ (c a : Addr) (xs : List V) (n : Nat), vs = [.ref c, .ref a] ∧ PoolAt H c ∧ H a = some (.tup xs) ∧ npool xs = true ∧ xs.length ≤ 3 ∧ DatB n 19 H xs ∧ ∀ H' r b, SameBut c H H' → PoolAt H' c → Dat b (3 * n + 250) 25 H' r → Q r H'
theorem ints_map {ys : List V} {α : Type} {ds : List α} {f : α → Int} (hl : ys.length = ds.length) (h : ∀ (j : Nat) (y : V), ys[j]? = some y → ∃ d, ds[j]? = some d ∧ y = .int (f d)) : ys = (ds.map f).map V.int := by
  apply List.ext_getElem?
  intro j
  by_cases c : j < ds.length
  · have e : ys[j]? = some ys[j] := List.getElem?_eq_getElem (by omega)
    obtain ⟨d, e1, e2⟩ := h j _ e
    rw [e, e2]
    simp [e1]
  · rw [List.getElem?_eq_none (by omega), List.getElem?_eq_none (by simp; omega)]
section
variable {P : Program} {w : World} {K : PySem.W.Frag} {mg : Str → Option Value} {base : Heap}
theorem st_law_depth (T : Txt K mg) (m : Nat)  (g_law_depth : Gives P w K mg base CX0 (0 + m) "_law_depth" (spDepth m)) : Gives P w K mg base CX0 (0 + m + 1) "_law_depth" (spDepth (m + 1)) := by
  refine gives_fun T.d_law_depth sc_law_depth (fun _ _ _ _ _ _ us hl => match us, hl with | [_], _ => rfl) (fun vs H Q E h => ?_) (fun f cdv A outer s H vs Q E hr h => ?_)
  · obtain ⟨v, p, rfl, _⟩ := h
    rfl
  · obtain ⟨v, p, rfl, hp, ho, hdm, q⟩ := h
    refine ⟨_, (pss_cons (ps_if (pt_cmpR op_in_seq (pe_ix ix_tup (pv 0) pe_int (fun _ _ => rfl)) (pe_tup (pa_cons pe_str (pa_cons pe_str pa_nil))) (by rfl)) (pss_one (ps_ret pe_int)) pss_nil)
      (pss_one (ps_ret (pe_op op_add pe_int (pe_callB (cr_max rfl) (by rfl) T.n_max (by decide +kernel) (pa_cons (pe_lc (own := [("_law_part", 1)]) rfl sc_law_depth.nd (pi_tup (pe_slice sl_tup (pv 0) (po_some pe_int) po_none)) (blkOk_by (N := ["_law_sketch_here", "_law_part"]) (sc := defScope s_law_depth) (by decide +kernel)) (fun _ _ _ _ _ => (pg_name (i := 1) sc_law_depth.nd rfl (Or.inl rfl))) (fun _ _ _ _ _ => pts_nil) (fun _ _ _ _ _ => (pe_own g_law_depth (hr.mono (by omega)) (by rfl) pass0 (pa_cons (pv 1) pa_nil)))) pa_nil)))))), ?_⟩
    cases hop : p.op with
    | none =>
      cases p with
      | un o r => cases hop
      | bin o r t => cases hop
      | word i =>
        obtain ⟨a, rfl, ha⟩ := hp
        walk_at "rd"
        exact q _ (by walk_at "sm")
      | unk n =>
        obtain ⟨a, rfl, ha⟩ := hp
        walk_at "rd"
        exact q _ (by walk_at "sm")
    | some o =>
      obtain ⟨a, xs, rfl, ha, hk, hlen⟩ := hp.node hop
      have kl := Pat.kids_len hop
      walk_at "rd"
      refine iteF' (op_name_in o) ?_
      walk_at "rd"
      refine lc_mapT (xs := xs) (G := fun i yy => ∃ k : Pat, p.kids[i]? = some k ∧ yy = .int (k.depth : Int)) (.inl (.inl (by rw [upd_same, cut1]; rfl))) (by assumption) (by omega) (fun _ => rfl) (fun i x H1 R hx s1 r => ?_) (fun H1 ys s1 hd1 hl hg => ?_)
      · obtain ⟨k, hki, hpk⟩ := paired_at hk hx
        obtain ⟨kf1, kf2, _⟩ := Pat.kid_facts (List.mem_of_getElem? hki) ho
        have hpk1 : PatAt H1 x k := by
          refine PatAt.same ?_ hpk
          exact L2.Same.trans (by walk_at "sm") s1
        walk_at "rd"
        exact r _ _ (by walk_at "sm") ⟨k, hki, rfl⟩
      · have ey := ints_map (f := fun k : Pat => (k.depth : Int)) (ds := p.kids) (by rw [hl, hlen]) hg
        subst ey
        have sm : L2.Same H H1 := by walk_at "sm"
        cases p with
        | word i => cases hop
        | unk n => cases hop
        | un o' r =>
          refine ⟨_, [(r.depth : Int)], rfl, .inl (.inl hd1), Nat.succ_pos _, fun m' hm _ => ⟨_, _, rfl, rfl, int_cast ?_ (q _ sm)⟩⟩
          rw [List.mem_singleton.mp hm]
          show 1 + (r.depth : Int) = ((r.depth + 1 : Nat) : Int)
          omega
        | bin o' r t =>
          refine ⟨_, [(r.depth : Int), (t.depth : Int)], rfl, .inl (.inl hd1), Nat.succ_pos _, fun m' hm hx => ⟨_, _, rfl, rfl, int_cast ?_ (q _ sm)⟩⟩
          have h1 := hx (r.depth : Int) (List.mem_cons_self ..)
          have h2 := hx (t.depth : Int) (List.mem_cons_of_mem _ (List.mem_cons_self ..))
          show 1 + m' = ((max r.depth t.depth + 1 : Nat) : Int)
          rcases List.mem_cons.mp hm with e | e
          · omega
          · have := List.mem_singleton.mp e
            omega
theorem g_law_odd_part (T : Txt K mg) (g_law_draw : Gives P w K mg base CX0 1 "_law_draw" spDraw) : Gives P w K mg base CX0 2 "_law_odd_part" spOdd := by
  refine gives_fun T.d_law_odd_part sc_law_odd_part (fun _ _ _ _ _ _ us hl => match us, hl with | [_, _], _ => rfl) (fun vs H Q E h => ?_) (fun f cdv A outer s H vs Q E hr h => ?_)
  · obtain ⟨c, a, xs, n, rfl, _⟩ := h
    rfl
  · obtain ⟨c, a, xs, n, rfl, hP, ha, hnp, hxl, hxs, q⟩ := h
    refine ⟨_, (pss_cons (ps_set (i := 2) sc_law_odd_part.nd rfl (Or.inl rfl) (pe_lst (pa_cons (pe_tup (pa_cons pe_str (pa_cons pe_bl pa_nil))) (pa_cons (pe_tup (pa_cons pe_str (pa_cons (pe_powc 2147483648 ⟨by decide, by decide, by decide⟩ (by decide)) pa_nil))) (pa_cons (pe_tup (pa_cons pe_str (pa_cons (pe_op op_sub (pe_op op_sub pe_int (pe_powc 2147483648 ⟨by decide, by decide, by decide⟩ (by decide))) pe_int) pa_nil))) (pa_cons (pe_tup (pa_cons pe_str (pa_cons pe_str pa_nil))) (pa_cons (pe_tup (pa_cons pe_str (pa_cons pe_non pa_nil))) (pa_cons (pe_tup (pa_cons pe_str pa_nil)) pa_nil))))))))
      (pss_cons (ps_set (i := 2) sc_law_odd_part.nd rfl (Or.inl rfl) (pe_op op_cat (pv 2) (pe_lst (pa_cons (pe_tup (pa_cons pe_str (pa_cons pe_int (pa_cons pe_int pa_nil)))) (pa_cons (pe_tup (pa_cons pe_str (pa_cons (pe_op op_sub pe_int pe_int) pa_nil))) (pa_cons (pe_tup (pa_cons pe_str (pa_cons pe_int pa_nil))) (pa_cons (pe_tup (pa_cons pe_str (pa_cons pe_bl pa_nil))) (pa_cons (pe_tup (pa_cons pe_str (pa_cons (pe_tup (pa_cons pe_int pa_nil)) pa_nil))) pa_nil))))))))
      (pss_cons (ps_set (i := 2) sc_law_odd_part.nd rfl (Or.inl rfl) (pe_op op_cat (pv 2) (pe_lst (pa_cons (pe_tup (pa_cons pe_str (pa_cons pe_int pa_nil))) (pa_cons (pe_tup (pa_cons pe_str (pa_cons pe_str pa_nil))) (pa_cons (pe_tup (pa_cons pe_str (pa_cons pe_str (pa_cons (pv 1) pa_nil)))) (pa_cons (pe_tup (pa_cons pe_str (pa_cons pe_str (pa_cons (pe_tup pa_nil) pa_nil)))) (pa_cons (pe_tup (pa_cons pe_str (pa_cons (pv 1) (pa_cons (pe_tup (pa_cons pe_str (pa_cons pe_int pa_nil))) pa_nil)))) pa_nil))))))))
      (pss_cons (ps_set (i := 2) sc_law_odd_part.nd rfl (Or.inl rfl) (pe_op op_cat (pv 2) (pe_lst (pa_cons (pe_tup (pa_cons pe_str (pa_cons (pv 1) (pa_cons (pv 1) pa_nil)))) (pa_cons (pe_tup (pa_cons pe_str (pa_cons (pv 1) pa_nil))) (pa_cons (pe_tup (pa_cons pe_str (pa_cons (pv 1) (pa_cons (pv 1) pa_nil)))) (pa_cons (pe_tup (pa_cons pe_str (pa_cons (pv 1) (pa_cons (pv 1) (pa_cons (pv 1) pa_nil))))) (pa_cons (pe_tup (pa_cons (pv 1) (pa_cons (pv 1) pa_nil))) pa_nil))))))))
      (pss_cons (ps_set (i := 2) sc_law_odd_part.nd rfl (Or.inl rfl) (pe_op op_cat (pv 2) (pe_lst (pa_cons (pe_callTy call_list_of (by rfl) T.n_list (by decide +kernel) (pa_cons (pv 1) pa_nil)) (pa_cons (pe_lst (pa_cons pe_str (pa_cons (pv 1) (pa_cons (pv 1) pa_nil)))) (pa_cons (pe_tup (pa_cons pe_str (pa_cons (pv 1) (pa_cons (pv 1) pa_nil)))) (pa_cons (pe_tup (pa_cons pe_str (pa_cons (pv 1) (pa_cons (pv 1) pa_nil)))) (pa_cons (pe_tup (pa_cons (pe_tup pa_nil) (pa_cons (pv 1) pa_nil))) pa_nil))))))))
      (pss_cons (ps_set (i := 2) sc_law_odd_part.nd rfl (Or.inl rfl) (pe_op op_cat (pv 2) (pe_lst (pa_cons pe_non (pa_cons (pe_tup pa_nil) (pa_cons pe_str (pa_cons pe_int (pa_cons pe_dnewK (pa_cons (pe_tup (pa_cons pe_str pa_nil)) (pa_cons (pe_tup (pa_cons pe_str (pa_cons pe_non pa_nil))) (pa_cons (pe_tup (pa_cons pe_str (pa_cons (pe_lst (pa_cons (pv 1) pa_nil)) pa_nil))) (pa_cons (pe_tup (pa_cons pe_str (pa_cons (pv 1) (pa_cons (pe_callTy call_list_of (by rfl) T.n_list (by decide +kernel) (pa_cons (pv 1) pa_nil)) pa_nil)))) pa_nil))))))))))))
      (pss_cons (ps_set (i := 2) sc_law_odd_part.nd rfl (Or.inl rfl) (pe_op op_cat (pv 2) (pe_lst (pa_cons (pe_tup (pa_cons pe_dnewK pa_nil)) (pa_cons (pe_tup (pa_cons (pe_lst pa_nil) (pa_cons (pv 1) pa_nil))) pa_nil)))))
      (pss_cons (ps_set (i := 3) sc_law_odd_part.nd rfl (Or.inl rfl) (pe_lst (pa_cons (pe_tup (pa_cons pe_str (pa_cons (pe_op op_sub (pe_powc 2147483648 ⟨by decide, by decide, by decide⟩ (by decide)) pe_int) pa_nil))) (pa_cons (pe_tup (pa_cons pe_str (pa_cons (pe_op op_sub pe_int (pe_powc 2147483648 ⟨by decide, by decide, by decide⟩ (by decide))) pa_nil))) (pa_cons (pe_tup (pa_cons pe_str (pa_cons pe_int pa_nil))) (pa_cons (pe_tup (pa_cons pe_str (pa_cons pe_int pa_nil))) pa_nil))))))
      (pss_one (ps_ret (pe_ix ix_any (pe_op op_cat (pv 2) (pv 3)) (pe_own g_law_draw (hr.mono (by decide)) (by rfl) pass0 (pa_cons (pv 0) (pa_cons (pe_op op_add (pe_callB call_len_seq (by rfl) T.n_len (by decide +kernel) (pa_cons (pv 2) pa_nil)) pe_int) pa_nil))) (fun _ _ => rfl)))))))))))), ?_⟩
    have hfew : few 3 xs = true := few_of hxl
    have hxs : ∀ b, DatL b n 19 H xs := hxs
    have hv : ∀ b, Dat b (n + 4) 20 H (.ref a) := fun b => Dat.tup ha (hxs b)
    refine seq_then (fun σ' H' => ∃ l ys, σ' = [some (.ref c), some (.ref a), some (.ref l), none] ∧ SameBut c H H' ∧ PoolAt H' c ∧ H' l = some (.lst ys) ∧ ys.length = 6 ∧ npool ys = true ∧ AllD (3 * n + 250) 25 H' ys) ?_ (fun U hU => ?_)
    rotate_left
    · walk_at "rd"
      exact hU _ _ ⟨_, _, rfl, by walk_at "sb", by walk_at "pl", upd_same, rfl, rfl, by (walk_at "al"); all_goals exact true⟩
    rintro σ' H1 ⟨l1, ys1, rfl, s1, P1, hl1, hn1, hq1, hA1⟩
    refine seq_then (fun σ' H' => ∃ l ys, σ' = [some (.ref c), some (.ref a), some (.ref l), none] ∧ SameBut c H H' ∧ PoolAt H' c ∧ H' l = some (.lst ys) ∧ ys.length = 11 ∧ npool ys = true ∧ AllD (3 * n + 250) 25 H' ys) ?_ (fun U hU => ?_)
    rotate_left
    · walk_at "rd"
      exact hU _ _ ⟨_, _, rfl, by walk_at "sb", by walk_at "pl", upd_same, by rw [List.length_append, hn1]; rfl, npool_app (by omega), by (walk_at "al"); all_goals exact true⟩
    rintro σ' H2 ⟨l2, ys2, rfl, s2, P2, hl2, hn2, hq2, hA2⟩
    clear hA1 hq1 hn1 hl1 P1 s1 ys1 l1 H1
    refine seq_then (fun σ' H' => ∃ l ys, σ' = [some (.ref c), some (.ref a), some (.ref l), none] ∧ SameBut c H H' ∧ PoolAt H' c ∧ H' l = some (.lst ys) ∧ ys.length = 16 ∧ npool ys = true ∧ AllD (3 * n + 250) 25 H' ys) ?_ (fun U hU => ?_)
    rotate_left
    · walk_at "rd"
      exact hU _ _ ⟨_, _, rfl, by walk_at "sb", by walk_at "pl", upd_same, by rw [List.length_append, hn2]; rfl, npool_app (by omega), by (walk_at "al"); all_goals exact true⟩
    rintro σ' H3 ⟨l3, ys3, rfl, s3, P3, hl3, hn3, hq3, hA3⟩
    clear hA2 hq2 hn2 hl2 P2 s2 ys2 l2 H2
    refine seq_then (fun σ' H' => ∃ l ys, σ' = [some (.ref c), some (.ref a), some (.ref l), none] ∧ SameBut c H H' ∧ PoolAt H' c ∧ H' l = some (.lst ys) ∧ ys.length = 21 ∧ npool ys = true ∧ AllD (3 * n + 250) 25 H' ys) ?_ (fun U hU => ?_)
    rotate_left
    · walk_at "rd"
      exact hU _ _ ⟨_, _, rfl, by walk_at "sb", by walk_at "pl", upd_same, by rw [List.length_append, hn3]; rfl, npool_app (by omega), by (walk_at "al"); all_goals exact true⟩
    rintro σ' H4 ⟨l4, ys4, rfl, s4, P4, hl4, hn4, hq4, hA4⟩
    clear hA3 hq3 hn3 hl3 P3 s3 ys3 l3 H3
    refine seq_then (fun σ' H' => ∃ l ys, σ' = [some (.ref c), some (.ref a), some (.ref l), none] ∧ SameBut c H H' ∧ PoolAt H' c ∧ H' l = some (.lst ys) ∧ ys.length = 26 ∧ npool ys = true ∧ AllD (3 * n + 250) 25 H' ys) ?_ (fun U hU => ?_)
    rotate_left
    · walk_at "rd"
      exact hU _ _ ⟨_, _, rfl, by walk_at "sb", by walk_at "pl", upd_same, by rw [List.length_append, hn4]; rfl, npool_app (by omega), by (walk_at "al"); all_goals exact true⟩
    rintro σ' H5 ⟨l5, ys5, rfl, s5, P5, hl5, hn5, hq5, hA5⟩
    clear hA4 hq4 hn4 hl4 P4 s4 ys4 l4 H4
    refine seq_then (fun σ' H' => ∃ l ys, σ' = [some (.ref c), some (.ref a), some (.ref l), none] ∧ SameBut c H H' ∧ PoolAt H' c ∧ H' l = some (.lst ys) ∧ ys.length = 35 ∧ npool ys = true ∧ AllD (3 * n + 250) 25 H' ys) ?_ (fun U hU => ?_)
    rotate_left
    · walk_at "rd"
      exact hU _ _ ⟨_, _, rfl, by walk_at "sb", by walk_at "pl", upd_same, by rw [List.length_append, hn5]; rfl, npool_app (by omega), by (walk_at "al"); all_goals exact true⟩
    rintro σ' H6 ⟨l6, ys6, rfl, s6, P6, hl6, hn6, hq6, hA6⟩
    clear hA5 hq5 hn5 hl5 P5 s5 ys5 l5 H5
    refine seq_then (fun σ' H' => ∃ l ys, σ' = [some (.ref c), some (.ref a), some (.ref l), none] ∧ SameBut c H H' ∧ PoolAt H' c ∧ H' l = some (.lst ys) ∧ ys.length = 37 ∧ npool ys = true ∧ AllD (3 * n + 250) 25 H' ys) ?_ (fun U hU => ?_)
    rotate_left
    · walk_at "rd"
      exact hU _ _ ⟨_, _, rfl, by walk_at "sb", by walk_at "pl", upd_same, by rw [List.length_append, hn6]; rfl, npool_app (by omega), by (walk_at "al"); all_goals exact true⟩
    rintro σ' H7 ⟨l7, ys7, rfl, s7, P7, hl7, hn7, hq7, hA7⟩
    clear hA6 hq6 hn6 hl6 P6 s6 ys6 l6 H6
    refine seq_then (fun σ' H' => ∃ lg zs, σ' = [some (.ref c), some (.ref a), some (.ref l7), some (.ref lg)] ∧ SameBut c H H' ∧ PoolAt H' c ∧ H' l7 = some (.lst ys7) ∧ AllD (3 * n + 250) 25 H' ys7 ∧ H' lg = some (.lst zs) ∧ zs.length = 4 ∧ npool zs = true ∧ AllD (3 * n + 250) 25 H' zs) ?_ (fun U hU => ?_)
    rotate_left
    · walk_at "rd"
      exact hU _ _ ⟨_, _, rfl, by walk_at "sb", by walk_at "pl", by walk_at "hp", by walk_at "al", upd_same, rfl, rfl, by (walk_at "al"); all_goals exact true⟩
    rintro σ' HZ ⟨lg, zs, rfl, sZ, PZ, hlZ, hAZ, hlg, hzn, hzq, hAz⟩
    walk_at "rd"
    rename_i x hx
    obtain ⟨b, hb⟩ := (AllD.app hAZ hAz) x hx
    exact q _ x b (by walk_at "sb") (by walk_at "pl") (by walk_at "dt")
end
end Cb

end

section
set_option maxRecDepth 100000
set_option maxHeartbeats 4000000
namespace Cb
open PySem PySem.Spec PyProof.Rows L2
local macro_rules | `(tactic| walk_at "pl") => `(tactic| first
  | with_reducible assumption
  | ((with_reducible apply PoolAt.new); (with_reducible assumption); walk_at "pl")
  | ((with_reducible apply PoolAt.same'); (with_reducible assumption); walk_at "pl"))
local macro_rules | `(tactic| walk_at "hp") => `(tactic| first
  | with_reducible assumption
  | with_reducible exact upd_same
  | ((with_reducible apply upd_new); (with_reducible assumption); walk_at "hp")
  | ((with_reducible apply hp_same); (with_reducible assumption); walk_at "hp")
  | ((with_reducible apply but_tup); (with_reducible assumption); walk_at "pl"; walk_at "hp")
  | ((with_reducible apply but_lst); (with_reducible assumption); walk_at "pl"; walk_at "hp"; first | exact rfl | assumption | exact npool_app (by omega)))
local macro_rules | `(tactic| walk_at "da") => `(tactic| first
  | with_reducible assumption
  | with_reducible exact DA.int _
  | with_reducible exact DA.str _
  | with_reducible exact DA.bl _
  | with_reducible exact DA.non
  | ((with_reducible apply DA.tup); (with_reducible exact upd_same); walk_at "dal")
  | ((with_reducible apply DA.lst); (with_reducible exact upd_same); exact rfl; exact rfl; walk_at "dal")
  | with_reducible exact DA.dct upd_same
  | ((with_reducible apply DA.new); (with_reducible assumption); walk_at "da")
  | ((with_reducible apply DA.same'); (with_reducible assumption); walk_at "da")
  | ((with_reducible apply DA.but'); (with_reducible assumption); walk_at "pl"; walk_at "da"))
local macro_rules | `(tactic| walk_at "dal") => `(tactic| first
  | exact DAll.nil
  | (apply DAll.cons; walk_at "da"; walk_at "dal"))
local macro_rules | `(tactic| walk_at "ft") => `(tactic| first
  | with_reducible assumption
  | apply Fit.non'
  | apply Fit.bl'
  | (apply Fit.str (n := 20); decide +kernel)
  | (apply Fit.int'; first | decide | omega)
  | (apply Fit.tup'; walk_at "fta")
  | (apply Fit.lst'; walk_at "fta"))
local macro_rules | `(tactic| walk_at "fta") => `(tactic| first
  | apply FitAll.nil'
  | (apply FitAll.cons'; walk_at "ft"; walk_at "fta"))
local macro_rules | `(tactic| walk_at "sm") => `(tactic| first
  | with_reducible assumption
  | with_reducible exact L2.Same.refl _
  | ((with_reducible apply sm_new); (with_reducible assumption); walk_at "sm")
  | ((with_reducible apply sm_same); (with_reducible assumption); walk_at "sm"))
local macro_rules | `(tactic| walk_at "sb") => `(tactic| first
  | with_reducible assumption
  | with_reducible exact SameBut.refl _ _
  | ((with_reducible apply sb_new); (with_reducible assumption); walk_at "sb")
  | ((with_reducible apply sb_but); (with_reducible assumption); walk_at "sb")
  | ((with_reducible apply sb_same); (with_reducible assumption); walk_at "sb"))
local macro_rules | `(tactic| walk_at "sq") => `(tactic| first
  | (refine Or.inl (Or.inl ?_); walk_at "hp")
  | (refine Or.inr (Or.inl (Or.inl ?_)); walk_at "hp")
  | (refine Or.inl (Or.inl (Or.inl ?_)); walk_at "hp")
  | exact (by assumption : ∀ H', SqT _ H' _ _) _
  | exact Or.inr ((by assumption : ∀ H', SqT _ H' _ _) _))
local macro_rules | `(tactic| walk_at "dt") => `(tactic| first
  | with_reducible assumption
  | apply (by assumption : ∀ b, Dat b _ _ _ _)
  | (with_reducible apply Dat.non)
  | (with_reducible apply Dat.bl)
  | ((with_reducible apply Dat.str); first | decide +kernel | exact name_short _)
  | ((with_reducible apply Dat.int); first | decide | omega)
  | ((with_reducible apply Dat.up'); (first | (with_reducible assumption) | apply (by assumption : ∀ b, Dat b _ _ _ _)); omega)
  | ((with_reducible apply Dat.tup); (with_reducible exact upd_same); walk_at "dtl")
  | ((with_reducible apply Dat.lst); (with_reducible exact upd_same); (first | exact rfl | assumption); (first | exact rfl | assumption); walk_at "dtl")
  | ((with_reducible apply Dat.dct); with_reducible exact upd_same)
  | ((with_reducible apply Dat.new); (with_reducible assumption); walk_at "dt")
  | ((with_reducible apply Dat.same'); (with_reducible assumption); walk_at "dt")
  | ((with_reducible apply Dat.but'); (with_reducible assumption); walk_at "pl"; walk_at "dt")
  | ((with_reducible apply Dat.ofE); (with_reducible assumption); omega)
  | ((with_reducible apply Dat.leaf); (with_reducible assumption); assumption; assumption; decide; omega))
local macro_rules | `(tactic| walk_at "dtl") => `(tactic| first
  | apply DatL.nil
  | ((with_reducible apply DatL.cons); walk_at "dt"; walk_at "dtl")
  | with_reducible assumption
  | apply (by assumption : ∀ b, DatL b _ _ _ _)
  | ((with_reducible apply DatL.up'); (first | (with_reducible assumption) | apply (by assumption : ∀ b, DatL b _ _ _ _)); omega)
  | ((with_reducible apply DatL.new); (with_reducible assumption); walk_at "dtl")
  | ((with_reducible apply DatL.same'); (with_reducible assumption); walk_at "dtl")
  | ((with_reducible apply DatL.but'); (with_reducible assumption); walk_at "pl"; walk_at "dtl"))
local macro_rules | `(tactic| walk_at "al") => `(tactic| first
  | exact AllD.nil
  | ((with_reducible apply AllD.cons); walk_at "dt"; omega; walk_at "al")
  | with_reducible assumption
  | ((with_reducible apply AllD.app); walk_at "al"; walk_at "al")
  | ((with_reducible apply AllD.new); (with_reducible assumption); walk_at "al")
  | ((with_reducible apply AllD.same'); (with_reducible assumption); walk_at "al")
  | ((with_reducible apply AllD.but'); (with_reducible assumption); walk_at "pl"; walk_at "al"))
local macro_rules | `(tactic| walk_at "pt") => `(tactic| first
  | with_reducible assumption
  | ((with_reducible apply PatAt.new); (with_reducible assumption); walk_at "pt")
  | ((with_reducible apply PatAt.same'); (with_reducible assumption); walk_at "pt")
  | ((with_reducible apply PatAt.but'); (with_reducible assumption); walk_at "pl"; walk_at "pt"))
local macro_rules | `(tactic| walk_at "db") => `(tactic| first
  | with_reducible assumption
  | ((with_reducible apply DatB.new); (with_reducible assumption); walk_at "db")
  | ((with_reducible apply DatB.same'); (with_reducible assumption); walk_at "db")
  | ((with_reducible apply DatB.but'); (with_reducible assumption); walk_at "pl"; walk_at "db"))
local macro_rules | `(tactic| walk_at "st") => `(tactic| first
  | (with_reducible show upd _ _ _ _ = some _); (walk_at "hp")
  | (with_reducible show L2.Same _ _); (walk_at "sm")
  | (with_reducible refine And.intro ?_ ?_)
  | exact rfl
  | with_reducible assumption
  | (with_reducible show DA _ _ _); (walk_at "da")
  | (with_reducible show PoolAt _ _); (walk_at "pl")
  | (with_reducible show Dat _ _ _ _ _); (walk_at "dt")
  | (with_reducible show Fit _ _ _ _); (walk_at "ft")
  | (with_reducible show PatAt _ _ _); (walk_at "pt")
  | (with_reducible show SameBut _ _ _); (walk_at "sb")
  | (with_reducible show _ ≤ sizeLine); (first | exact len_line _ rfl | exact len_line2 _ _ rfl rfl | decide | omega | exact Nat.le_trans (m := 200000) (by omega) (by decide) | exact Nat.le_trans (m := 200000) (by simp only [List.length_cons, List.length_nil]; omega) (by decide))
  | (with_reducible first | show (_ : Int) ≤ _ | show (_ : Int) < _ | show (_ : Nat) ≤ _ | show (_ : Nat) < _); (first | omega | (simp only [List.length_append]; omega) | (simp only [List.length_cons, List.length_nil]; omega) | (simp only [List.length_append, List.length_cons, List.length_nil]; omega) | exact Int.lt_of_lt_of_le (by assumption) (by decide))
  | exact cut1_not _ _
  | exact List.cons_ne_nil _ _
  | exact fun h => absurd h (List.cons_ne_nil _ _)
  | exact fun h => (h rfl).elim
  | (with_reducible show DatB _ _ _ _); (walk_at "db")
  | (with_reducible show AllD _ _ _ _); (walk_at "al")
  | exact Or.inl ⟨rfl, _, Or.inl (Or.inl (by walk_at "hp"))⟩
  | exact fun h => absurd h.1 (Nat.ne_of_beq_eq_false rfl)
  | exact fun h => absurd h.2 (Nat.ne_of_beq_eq_false rfl)
  | exact at0 _ _
  | exact at1 _ _ _
  | (refine And.intro ?_ ?_)
  | (fail_if_success first | show (∃ _ : Nat → Nat → L2.St → Hp → Prop, _) | show (∃ _ : Nat → Nat → Hp → Prop, _) | show (∃ _ : Nat → L2.St → Hp → Prop, _)); (apply Exists.intro)
  | (refine iteT' rfl ?_)
  | (refine iteF' rfl ?_)
  | walk_at "sq"
  | (with_reducible show _ = some _); (walk_at "hp")
  | intro _
  | assumption)
local macro_rules | `(tactic| walk_at "rd") => `(tactic| repeat walk_at "st")
def spBent (n : Nat) : Sp := fun vs H Q _ => ∃ (c : Addr) (v : V) (p : Pat), vs = [.ref c, v] ∧ PoolAt H c ∧ PatAt H v p ∧ p.ok 1000 ∧ p.depth ≤ n ∧ p.depth ≤ 12 ∧ ∀ H' r b, SameBut c H H' → PoolAt H' c → Dat b (500 * 2 ^ p.depth) (25 + p.depth) H' r → Q r H'
def spTower : Sp := fun vs H Q _ => ∃ (c : Addr) (v : V) (b : Bool) (n m : Nat) (h : Int), vs = [.ref c, v, .int h] ∧ PoolAt H c ∧ Dat b n m H v ∧ 1 ≤ m ∧ 0 ≤ h ∧ h ≤ 20 ∧ ∀ H' r b', SameBut c H H' → PoolAt H' c → Dat b' (n + 400 * h.toNat) (m + h.toNat) H' r → Q r H'
theorem two_pow {d : Nat} (h : 1 ≤ d) : 2 ≤ 2 ^ d := by
  have : 2 ^ 1 ≤ 2 ^ d := Nat.pow_le_pow_right (by decide) h
  omega
section
variable {P : Program} {w : World} {K : PySem.W.Frag} {mg : Str → Option Value} {base : Heap}
theorem st_law_bent (T : Txt K mg) (m : Nat) (g_law_draw : Gives P w K mg base CX0 1 "_law_draw" spDraw) (g_law_odd_part : Gives P w K mg base CX0 2 "_law_odd_part" spOdd) (g_law_bent : Gives P w K mg base CX0 (2 + m) "_law_bent" (spBent m)) : Gives P w K mg base CX0 (2 + m + 1) "_law_bent" (spBent (m + 1)) := by
  refine gives_fun T.d_law_bent sc_law_bent (fun _ _ _ _ _ _ us hl => match us, hl with | [_, _], _ => rfl) (fun vs H Q E h => ?_) (fun f cdv A outer s H vs Q E hr h => ?_)
  · obtain ⟨c, v, p, rfl, _⟩ := h
    rfl
  · obtain ⟨c, v, p, rfl, hP, hp, ho, hdm, hd12, q⟩ := h
    refine ⟨_, (pss_cons (ps_if (PW.pt (pw_or (pt_cmpR op_in_seq (pe_ix ix_tup (pv 1) pe_int (fun _ _ => rfl)) (pe_tup (pa_cons pe_str (pa_cons pe_str pa_nil))) (by rfl)) (pw_or1 (pt_cmpR op_eq (pe_own g_law_draw (hr.mono (by omega)) (by rfl) pass0 (pa_cons (pv 0) (pa_cons pe_int pa_nil))) pe_int (nomark _))))) (pss_one (ps_ret (pe_own g_law_odd_part (hr.mono (by omega)) (by rfl) pass0 (pa_cons (pv 0) (pa_cons (pv 1) pa_nil))))) pss_nil)
      (pss_cons (ps_set (i := 2) sc_law_bent.nd rfl (Or.inl rfl) (pe_op op_add pe_int (pe_own g_law_draw (hr.mono (by omega)) (by rfl) pass0 (pa_cons (pv 0) (pa_cons (pe_op op_sub (pe_callB call_len_seq (by rfl) T.n_len (by decide +kernel) (pa_cons (pv 1) pa_nil)) pe_int) pa_nil)))))
      (pss_one (ps_ret (pe_op op_catT (pe_op op_catT (pe_slice sl_tup (pv 1) po_none (po_some (pv 2))) (pe_tup (pa_cons (pe_own g_law_bent (hr.mono (by omega)) (by rfl) pass0 (pa_cons (pv 0) (pa_cons (pe_ix ix_tup (pv 1) (pv 2) (fun _ _ => rfl)) pa_nil))) pa_nil))) (pe_slice sl_tup (pv 1) (po_some (pe_op op_add (pv 2) pe_int)) po_none)))))), ?_⟩
    have h2 := two_pow p.depth_pos
    have hxs : ∀ a xs, v = .ref a → H a = some (.tup xs) → DatB (100 * 2 ^ p.depth) 19 H xs := by
      intro a xs e ha b
      obtain ⟨a2, xs2, e2, ha2, _, _, hx⟩ := PatAt.parts (by decide) hp ho
      rw [e] at e2
      cases e2
      rw [ha] at ha2
      cases ha2
      exact (hx b).mono (Nat.le_refl _) (by omega)
    cases p with
    | word i =>
      obtain ⟨a, rfl, ha⟩ := hp
      have hxs := hxs a _ rfl ha
      walk_at "rd"
      refine q _ _ _ (by walk_at "sb") (by walk_at "pl") (Dat.mono (by assumption) ?_ ?_) <;> omega
    | unk i =>
      obtain ⟨a, rfl, ha⟩ := hp
      have hxs := hxs a _ rfl ha
      walk_at "rd"
      refine q _ _ _ (by walk_at "sb") (by walk_at "pl") (Dat.mono (by assumption) ?_ ?_) <;> omega
    | un o p =>
      obtain ⟨a, x, rfl, ha, hx⟩ := hp
      have hxs := hxs a _ rfl ha
      have ho2 := ho.2
      have hdm2 : p.depth + 1 ≤ m + 1 := hdm
      have hd2 : p.depth + 1 ≤ 12 := hd12
      have hpe : 2 ^ (Pat.un o p).depth = 2 * 2 ^ p.depth := by show 2 ^ (p.depth + 1) = _; rw [Nat.pow_succ]; omega
      have hde : (Pat.un o p).depth = p.depth + 1 := rfl
      walk_at "rd"
      refine iteF' (op_name_in o) ?_
      walk_at "rd"
      refine ite2 (fun c1 => ?_) (fun c1 => ?_)
      · walk_at "rd"
        refine q _ _ _ (by walk_at "sb") (by walk_at "pl") (Dat.mono (by assumption) ?_ ?_) <;> omega
      refine next_mk ?_
      dsimp only
      refine seq_then (fun σ' H' => σ' = [some (.ref c), some (.ref a), some (.int (1 + 0))] ∧ SameBut c H H' ∧ PoolAt H' c) ?_ (fun U hU => ?_)
      rotate_left
      · walk_at "rd"
        rename_i H1 r s1 P1 r0 r1
        have e : r = 0 := by
          have : r < ((2 : Nat) : Int) - 1 := r1
          omega
        subst e
        exact hU _ _ ⟨rfl, by walk_at "sb", by walk_at "pl"⟩
      rintro σ' H1 ⟨rfl, s1, P1⟩
      walk_at "rd"
      apply q
      walk_at "sb"
      walk_at "pl"
      apply Dat.mono
      · apply Dat.new
        assumption
        apply Dat.tup (m := 25 + p.depth)
        exact upd_same
        show DatL _ _ _ _ [.str o.name, _]
        walk_at "dtl"
      · omega
      · omega
      · exact fun h => (h rfl).elim
    | bin o p t =>
      obtain ⟨a, x, y, rfl, ha, hx, hy⟩ := hp
      have hxs := hxs a _ rfl ha
      obtain ⟨ho1, ho2, ho3⟩ := ho
      have hdm2 : max p.depth t.depth + 1 ≤ m + 1 := hdm
      have hd2 : max p.depth t.depth + 1 ≤ 12 := hd12
      have hpe : 2 ^ (Pat.bin o p t).depth = 2 * 2 ^ max p.depth t.depth := by show 2 ^ (max p.depth t.depth + 1) = _; rw [Nat.pow_succ]; omega
      have hde : (Pat.bin o p t).depth = max p.depth t.depth + 1 := rfl
      have h3 : 2 ^ p.depth ≤ 2 ^ max p.depth t.depth := Nat.pow_le_pow_right (by decide) (Nat.le_max_left _ _)
      have h4 : 2 ^ t.depth ≤ 2 ^ max p.depth t.depth := Nat.pow_le_pow_right (by decide) (Nat.le_max_right _ _)
      have h5 := two_pow p.depth_pos
      have h6 := two_pow t.depth_pos
      have hxD : DatE (100 * 2 ^ p.depth - 40) p.depth H x := fun b => PatAt.dat (by decide) hx ho2
      have hyD : DatE (100 * 2 ^ t.depth - 40) t.depth H y := fun b => PatAt.dat (by decide) hy ho3
      walk_at "rd"
      refine iteF' (op_name_in o) ?_
      walk_at "rd"
      refine ite2 (fun c1 => ?_) (fun c1 => ?_)
      · walk_at "rd"
        refine q _ _ _ (by walk_at "sb") (by walk_at "pl") (Dat.mono (by assumption) ?_ ?_) <;> omega
      refine next_mk ?_
      dsimp only
      refine seq_then (fun σ' H' => (σ' = [some (.ref c), some (.ref a), some (.int (1 + 0))] ∨ σ' = [some (.ref c), some (.ref a), some (.int (1 + 1))]) ∧ SameBut c H H' ∧ PoolAt H' c) ?_ (fun U hU => ?_)
      rotate_left
      · walk_at "rd"
        rename_i H1 r s1 P1 r0 r1
        have e : r = 0 ∨ r = 1 := by
          have : r < ((3 : Nat) : Int) - 1 := r1
          omega
        rcases e with e | e <;> subst e
        · exact hU _ _ ⟨.inl rfl, by walk_at "sb", by walk_at "pl"⟩
        · exact hU _ _ ⟨.inr rfl, by walk_at "sb", by walk_at "pl"⟩
      rintro σ' H1 ⟨e | e, s1, P1⟩ <;> subst e
      · walk_at "rd"
        apply q
        walk_at "sb"
        walk_at "pl"
        apply Dat.mono
        · apply Dat.tup (m := 25 + max p.depth t.depth)
          exact upd_same
          show DatL _ _ _ _ [.str o.name, _, _]
          walk_at "dtl"
        · omega
        · omega
      · walk_at "rd"
        apply q
        walk_at "sb"
        walk_at "pl"
        apply Dat.mono
        · apply Dat.new
          assumption
          apply Dat.tup (m := 25 + max p.depth t.depth)
          exact upd_same
          show DatL _ _ _ _ [.str o.name, _, _]
          walk_at "dtl"
        · omega
        · omega
        · exact fun h => (h rfl).elim
end
end Cb

end

section
set_option maxRecDepth 100000
set_option maxHeartbeats 4000000
namespace Cb
open PySem PySem.Spec PyProof.Rows L2
local macro_rules | `(tactic| walk_at "pl") => `(tactic| first
  | with_reducible assumption
  | ((with_reducible apply PoolAt.new); (with_reducible assumption); walk_at "pl")
  | ((with_reducible apply PoolAt.same'); (with_reducible assumption); walk_at "pl"))
local macro_rules | `(tactic| walk_at "hp") => `(tactic| first
  | with_reducible assumption
  | with_reducible exact upd_same
  | ((with_reducible apply upd_new); (with_reducible assumption); walk_at "hp")
  | ((with_reducible apply hp_same); (with_reducible assumption); walk_at "hp")
  | ((with_reducible apply but_tup); (with_reducible assumption); walk_at "pl"; walk_at "hp")
  | ((with_reducible apply but_lst); (with_reducible assumption); walk_at "pl"; walk_at "hp"; first | exact rfl | assumption | exact npool_app (by omega)))
local macro_rules | `(tactic| walk_at "da") => `(tactic| first
  | with_reducible assumption
  | with_reducible exact DA.int _
  | with_reducible exact DA.str _
  | with_reducible exact DA.bl _
  | with_reducible exact DA.non
  | ((with_reducible apply DA.tup); (with_reducible exact upd_same); walk_at "dal")
  | ((with_reducible apply DA.lst); (with_reducible exact upd_same); exact rfl; exact rfl; walk_at "dal")
  | with_reducible exact DA.dct upd_same
  | ((with_reducible apply DA.new); (with_reducible assumption); walk_at "da")
  | ((with_reducible apply DA.same'); (with_reducible assumption); walk_at "da")
  | ((with_reducible apply DA.but'); (with_reducible assumption); walk_at "pl"; walk_at "da"))
local macro_rules | `(tactic| walk_at "dal") => `(tactic| first
  | exact DAll.nil
  | (apply DAll.cons; walk_at "da"; walk_at "dal"))
local macro_rules | `(tactic| walk_at "ft") => `(tactic| first
  | with_reducible assumption
  | apply Fit.non'
  | apply Fit.bl'
  | (apply Fit.str (n := 20); decide +kernel)
  | (apply Fit.int'; first | decide | omega)
  | (apply Fit.tup'; walk_at "fta")
  | (apply Fit.lst'; walk_at "fta"))
local macro_rules | `(tactic| walk_at "fta") => `(tactic| first
  | apply FitAll.nil'
  | (apply FitAll.cons'; walk_at "ft"; walk_at "fta"))
local macro_rules | `(tactic| walk_at "sm") => `(tactic| first
  | with_reducible assumption
  | with_reducible exact L2.Same.refl _
  | ((with_reducible apply sm_new); (with_reducible assumption); walk_at "sm")
  | ((with_reducible apply sm_same); (with_reducible assumption); walk_at "sm"))
local macro_rules | `(tactic| walk_at "sb") => `(tactic| first
  | with_reducible assumption
  | with_reducible exact SameBut.refl _ _
  | ((with_reducible apply sb_new); (with_reducible assumption); walk_at "sb")
  | ((with_reducible apply sb_but); (with_reducible assumption); walk_at "sb")
  | ((with_reducible apply sb_same); (with_reducible assumption); walk_at "sb"))
local macro_rules | `(tactic| walk_at "sq") => `(tactic| first
  | (refine Or.inl (Or.inl ?_); walk_at "hp")
  | (refine Or.inr (Or.inl (Or.inl ?_)); walk_at "hp")
  | (refine Or.inl (Or.inl (Or.inl ?_)); walk_at "hp")
  | exact (by assumption : ∀ H', SqT _ H' _ _) _
  | exact Or.inr ((by assumption : ∀ H', SqT _ H' _ _) _))
local macro_rules | `(tactic| walk_at "dt") => `(tactic| first
  | with_reducible assumption
  | apply (by assumption : ∀ b, Dat b _ _ _ _)
  | (with_reducible apply Dat.non)
  | (with_reducible apply Dat.bl)
  | ((with_reducible apply Dat.str); first | decide +kernel | exact name_short _)
  | ((with_reducible apply Dat.int); first | decide | omega)
  | ((with_reducible apply Dat.up'); (first | (with_reducible assumption) | apply (by assumption : ∀ b, Dat b _ _ _ _)); omega)
  | ((with_reducible apply Dat.tup); (with_reducible exact upd_same); walk_at "dtl")
  | ((with_reducible apply Dat.lst); (with_reducible exact upd_same); (first | exact rfl | assumption); (first | exact rfl | assumption); walk_at "dtl")
  | ((with_reducible apply Dat.dct); with_reducible exact upd_same)
  | ((with_reducible apply Dat.new); (with_reducible assumption); walk_at "dt")
  | ((with_reducible apply Dat.same'); (with_reducible assumption); walk_at "dt")
  | ((with_reducible apply Dat.but'); (with_reducible assumption); walk_at "pl"; walk_at "dt")
  | ((with_reducible apply Dat.ofE); (with_reducible assumption); omega)
  | ((with_reducible apply Dat.leaf); (with_reducible assumption); assumption; assumption; decide; omega))
local macro_rules | `(tactic| walk_at "dtl") => `(tactic| first
  | apply DatL.nil
  | ((with_reducible apply DatL.cons); walk_at "dt"; walk_at "dtl")
  | with_reducible assumption
  | apply (by assumption : ∀ b, DatL b _ _ _ _)
  | ((with_reducible apply DatL.up'); (first | (with_reducible assumption) | apply (by assumption : ∀ b, DatL b _ _ _ _)); omega)
  | ((with_reducible apply DatL.new); (with_reducible assumption); walk_at "dtl")
  | ((with_reducible apply DatL.same'); (with_reducible assumption); walk_at "dtl")
  | ((with_reducible apply DatL.but'); (with_reducible assumption); walk_at "pl"; walk_at "dtl"))
local macro_rules | `(tactic| walk_at "al") => `(tactic| first
  | exact AllD.nil
  | ((with_reducible apply AllD.cons); walk_at "dt"; omega; walk_at "al")
  | with_reducible assumption
  | ((with_reducible apply AllD.app); walk_at "al"; walk_at "al")
  | ((with_reducible apply AllD.new); (with_reducible assumption); walk_at "al")
  | ((with_reducible apply AllD.same'); (with_reducible assumption); walk_at "al")
  | ((with_reducible apply AllD.but'); (with_reducible assumption); walk_at "pl"; walk_at "al"))
local macro_rules | `(tactic| walk_at "pt") => `(tactic| first
  | with_reducible assumption
  | ((with_reducible apply PatAt.new); (with_reducible assumption); walk_at "pt")
  | ((with_reducible apply PatAt.same'); (with_reducible assumption); walk_at "pt")
  | ((with_reducible apply PatAt.but'); (with_reducible assumption); walk_at "pl"; walk_at "pt"))
local macro_rules | `(tactic| walk_at "db") => `(tactic| first
  | with_reducible assumption
  | ((with_reducible apply DatB.new); (with_reducible assumption); walk_at "db")
  | ((with_reducible apply DatB.same'); (with_reducible assumption); walk_at "db")
  | ((with_reducible apply DatB.but'); (with_reducible assumption); walk_at "pl"; walk_at "db"))
local macro_rules | `(tactic| walk_at "st") => `(tactic| first
  | (with_reducible show upd _ _ _ _ = some _); (walk_at "hp")
  | (with_reducible show L2.Same _ _); (walk_at "sm")
  | (with_reducible refine And.intro ?_ ?_)
  | exact rfl
  | with_reducible assumption
  | (with_reducible show DA _ _ _); (walk_at "da")
  | (with_reducible show PoolAt _ _); (walk_at "pl")
  | (with_reducible show Dat _ _ _ _ _); (walk_at "dt")
  | (with_reducible show Fit _ _ _ _); (walk_at "ft")
  | (with_reducible show PatAt _ _ _); (walk_at "pt")
  | (with_reducible show SameBut _ _ _); (walk_at "sb")
  | (with_reducible show _ ≤ sizeLine); (first | exact len_line _ rfl | exact len_line2 _ _ rfl rfl | decide | omega | exact Nat.le_trans (m := 200000) (by omega) (by decide) | exact Nat.le_trans (m := 200000) (by simp only [List.length_cons, List.length_nil]; omega) (by decide))
  | (with_reducible first | show (_ : Int) ≤ _ | show (_ : Int) < _ | show (_ : Nat) ≤ _ | show (_ : Nat) < _); (first | omega | (simp only [List.length_append]; omega) | (simp only [List.length_cons, List.length_nil]; omega) | (simp only [List.length_append, List.length_cons, List.length_nil]; omega) | exact Int.lt_of_lt_of_le (by assumption) (by decide))
  | exact cut1_not _ _
  | exact List.cons_ne_nil _ _
  | exact fun h => absurd h (List.cons_ne_nil _ _)
  | exact fun h => (h rfl).elim
  | (with_reducible show DatB _ _ _ _); (walk_at "db")
  | (with_reducible show AllD _ _ _ _); (walk_at "al")
  | exact Or.inl ⟨rfl, _, Or.inl (Or.inl (by walk_at "hp"))⟩
  | exact fun h => absurd h.1 (Nat.ne_of_beq_eq_false rfl)
  | exact fun h => absurd h.2 (Nat.ne_of_beq_eq_false rfl)
  | exact at0 _ _
  | exact at1 _ _ _
  | (refine And.intro ?_ ?_)
  | (fail_if_success first | show (∃ _ : Nat → Nat → L2.St → Hp → Prop, _) | show (∃ _ : Nat → Nat → Hp → Prop, _) | show (∃ _ : Nat → L2.St → Hp → Prop, _)); (apply Exists.intro)
  | (refine iteT' rfl ?_)
  | (refine iteF' rfl ?_)
  | walk_at "sq"
  | (with_reducible show _ = some _); (walk_at "hp")
  | intro _
  | assumption)
local macro_rules | `(tactic| walk_at "rd") => `(tactic| repeat walk_at "st")
section
variable {P : Program} {w : World} {K : PySem.W.Frag} {mg : Str → Option Value} {base : Heap}
theorem g_law_tower (T : Txt K mg) (g_law_draw : Gives P w K mg base CX0 1 "_law_draw" spDraw) (g_law_all_ways : Gives P w K mg base CX0 1 "_law_all_ways" spWays14) (g_law_leaf_sketch : Gives P w K mg base CX0 3 "_law_leaf_sketch" spLeaf) : Gives P w K mg base CX0 4 "_law_tower" spTower := by
  refine gives_fun T.d_law_tower sc_law_tower (fun _ _ _ _ _ _ us hl => match us, hl with | [_, _, _], _ => rfl) (fun vs H Q E h => ?_) (fun f cdv A outer s H vs Q E hr h => ?_)
  · obtain ⟨c, v, b, n, m, h, rfl, _⟩ := h
    rfl
  · obtain ⟨c, v, b, n, m, h, rfl, hP, hv, hm, h0, h20, q⟩ := h
    refine ⟨_, (pss_cons (ps_for PassesOwn.never rfl (pi_range1 (by rfl) T.n_range (pa_cons (pv 2) pa_nil)) (pg_name (i := 3) sc_law_tower.nd rfl (Or.inl rfl)) (pss_cons (ps_set (i := 4) sc_law_tower.nd rfl (Or.inl rfl) (pe_ix ix_any (pe_own0 g_law_all_ways (hr.mono (by decide)) (by rfl) pass0) (pe_own g_law_draw (hr.mono (by decide)) (by rfl) pass0 (pa_cons (pv 0) (pa_cons pe_int pa_nil))) (fun _ _ => rfl)))
      (pss_cons (ps_set (i := 5) sc_law_tower.nd rfl (Or.inl rfl) (pe_lst (pa_cons (pe_tup (pa_cons (pv 4) (pa_cons (pv 1) (pa_cons (pe_own g_law_leaf_sketch (hr.mono (by decide)) (by rfl) pass0 (pa_cons (pv 0) (pa_cons pe_int pa_nil))) pa_nil)))) (pa_cons (pe_tup (pa_cons (pv 4) (pa_cons (pe_own g_law_leaf_sketch (hr.mono (by decide)) (by rfl) pass0 (pa_cons (pv 0) (pa_cons pe_int pa_nil))) (pa_cons (pv 1) pa_nil)))) pa_nil))))
      (pss_one (ps_set (i := 1) sc_law_tower.nd rfl (Or.inl rfl) (pe_ix ix_any (pe_op op_cat (pv 5) (pe_lst (pa_cons (pe_tup (pa_cons pe_str (pa_cons (pv 1) pa_nil))) pa_nil))) (pe_own g_law_draw (hr.mono (by decide)) (by rfl) pass0 (pa_cons (pv 0) (pa_cons pe_int pa_nil))) (fun _ _ => rfl)))))))
      (pss_one (ps_ret (pv 1)))), ?_⟩
    obtain ⟨N, rfl⟩ : ∃ N : Nat, h = (N : Int) := ⟨h.toNat, by omega⟩
    rw [Int.toNat_natCast] at q
    walk_at "rd"
    refine for_range (lo := 0) (n := N) (fun i σ H' => ∃ v' b' y3 y4 y5, σ = [some (.ref c), some v', some (.int (N : Int)), y3, y4, y5] ∧ SameBut c H H' ∧ PoolAt H' c ∧ Dat b' (n + 400 * i) (m + i) H' v') ⟨v, b, none, none, none, rfl, SameBut.refl _ _, hP, hv⟩ (fun i σ H1 hi hI => ?_) (fun σ H1 hI => ?_)
    · obtain ⟨v', b', y3, y4, y5, rfl, s1, P1, hv1⟩ := hI
      refine seq_then (fun σ' H' => ∃ o : Op, σ' = [some (.ref c), some v', some (.int (N : Int)), some (.int (0 + (i : Int))), some (.str o.name), y5] ∧ SameBut c H H' ∧ PoolAt H' c ∧ Dat b' (n + 400 * i) (m + i) H' v') ?_ (fun U hU => ?_)
      rotate_left
      · walk_at "rd"
        rename_i w hw
        obtain ⟨o, _, rfl⟩ := List.mem_map.mp hw
        exact hU _ _ ⟨o, rfl, by walk_at "sb", by walk_at "pl", by walk_at "dt"⟩
      rintro σ' H2 ⟨o, rfl, s2, P2, hv2⟩
      clear hv1 P1 s1 H1
      refine seq_then (fun σ' H' => ∃ l t1 t2, σ' = [some (.ref c), some v', some (.int (N : Int)), some (.int (0 + (i : Int))), some (.str o.name), some (.ref l)] ∧ SameBut c H H' ∧ PoolAt H' c ∧ Dat b' (n + 400 * i) (m + i) H' v' ∧ H' l = some (.lst [.ref t1, .ref t2]) ∧ AllD (n + 400 * (i + 1)) (m + i + 1) H' [.ref t1, .ref t2]) ?_ (fun U hU => ?_)
      rotate_left
      · walk_at "rd"
        exact hU _ _ ⟨_, _, _, rfl, by walk_at "sb", by walk_at "pl", by walk_at "dt", upd_same, by (walk_at "al"); all_goals exact true⟩
      rintro σ' H3 ⟨l, t1, t2, rfl, s3, P3, hv3, hl, hA⟩
      clear hv2 P2 s2 H2
      refine nx_hide fun U hU => ?_
      walk_at "rd"
      rename_i p1 n1 p2 n2 p3 n3 H4 r s4 P4 r0 r1 x hx
      have hall : AllD (n + 400 * (i + 1)) (m + i + 1) H4 ([.ref t1, .ref t2] ++ [.ref p1]) := by (walk_at "al"); all_goals exact true
      obtain ⟨bx, hbx⟩ := hall x hx
      exact hU _ _ ⟨x, bx, _, _, _, rfl, by walk_at "sb", by walk_at "pl", hbx⟩
    · obtain ⟨v', b', y3, y4, y5, rfl, s1, P1, hv1⟩ := hI
      walk_at "rd"
      exact q _ _ _ s1 P1 hv1
end
end Cb

end

section
set_option maxRecDepth 100000
set_option maxHeartbeats 4000000
namespace Cb
open PySem PySem.Spec PyProof.Rows L2
local macro_rules | `(tactic| walk_at "pl") => `(tactic| first
  | with_reducible assumption
  | ((with_reducible apply PoolAt.new); (with_reducible assumption); walk_at "pl")
  | ((with_reducible apply PoolAt.same'); (with_reducible assumption); walk_at "pl"))
local macro_rules | `(tactic| walk_at "hp") => `(tactic| first
  | with_reducible assumption
  | with_reducible exact upd_same
  | ((with_reducible apply upd_new); (with_reducible assumption); walk_at "hp")
  | ((with_reducible apply hp_same); (with_reducible assumption); walk_at "hp")
  | ((with_reducible apply but_tup); (with_reducible assumption); walk_at "pl"; walk_at "hp")
  | ((with_reducible apply but_lst); (with_reducible assumption); walk_at "pl"; walk_at "hp"; first | exact rfl | assumption | exact npool_app (by omega)))
local macro_rules | `(tactic| walk_at "da") => `(tactic| first
  | with_reducible assumption
  | with_reducible exact DA.int _
  | with_reducible exact DA.str _
  | with_reducible exact DA.bl _
  | with_reducible exact DA.non
  | ((with_reducible apply DA.tup); (with_reducible exact upd_same); walk_at "dal")
  | ((with_reducible apply DA.lst); (with_reducible exact upd_same); exact rfl; exact rfl; walk_at "dal")
  | with_reducible exact DA.dct upd_same
  | ((with_reducible apply DA.new); (with_reducible assumption); walk_at "da")
  | ((with_reducible apply DA.same'); (with_reducible assumption); walk_at "da")
  | ((with_reducible apply DA.but'); (with_reducible assumption); walk_at "pl"; walk_at "da"))
local macro_rules | `(tactic| walk_at "dal") => `(tactic| first
  | exact DAll.nil
  | (apply DAll.cons; walk_at "da"; walk_at "dal"))
local macro_rules | `(tactic| walk_at "ft") => `(tactic| first
  | with_reducible assumption
  | apply Fit.non'
  | apply Fit.bl'
  | (apply Fit.str (n := 20); decide +kernel)
  | (apply Fit.int'; first | decide | omega)
  | (apply Fit.tup'; walk_at "fta")
  | (apply Fit.lst'; walk_at "fta"))
local macro_rules | `(tactic| walk_at "fta") => `(tactic| first
  | apply FitAll.nil'
  | (apply FitAll.cons'; walk_at "ft"; walk_at "fta"))
local macro_rules | `(tactic| walk_at "sm") => `(tactic| first
  | with_reducible assumption
  | with_reducible exact L2.Same.refl _
  | ((with_reducible apply sm_new); (with_reducible assumption); walk_at "sm")
  | ((with_reducible apply sm_same); (with_reducible assumption); walk_at "sm"))
local macro_rules | `(tactic| walk_at "sb") => `(tactic| first
  | with_reducible assumption
  | with_reducible exact SameBut.refl _ _
  | ((with_reducible apply sb_new); (with_reducible assumption); walk_at "sb")
  | ((with_reducible apply sb_but); (with_reducible assumption); walk_at "sb")
  | ((with_reducible apply sb_same); (with_reducible assumption); walk_at "sb"))
local macro_rules | `(tactic| walk_at "sq") => `(tactic| first
  | (refine Or.inl (Or.inl ?_); walk_at "hp")
  | (refine Or.inr (Or.inl (Or.inl ?_)); walk_at "hp")
  | (refine Or.inl (Or.inl (Or.inl ?_)); walk_at "hp")
  | exact (by assumption : ∀ H', SqT _ H' _ _) _
  | exact Or.inr ((by assumption : ∀ H', SqT _ H' _ _) _))
local macro_rules | `(tactic| walk_at "dt") => `(tactic| first
  | with_reducible assumption
  | apply (by assumption : ∀ b, Dat b _ _ _ _)
  | (with_reducible apply Dat.non)
  | (with_reducible apply Dat.bl)
  | ((with_reducible apply Dat.str); first | decide +kernel | exact name_short _)
  | ((with_reducible apply Dat.int); first | decide | omega)
  | ((with_reducible apply Dat.up'); (first | (with_reducible assumption) | apply (by assumption : ∀ b, Dat b _ _ _ _)); omega)
  | ((with_reducible apply Dat.tup); (with_reducible exact upd_same); walk_at "dtl")
  | ((with_reducible apply Dat.lst); (with_reducible exact upd_same); (first | exact rfl | assumption); (first | exact rfl | assumption); walk_at "dtl")
  | ((with_reducible apply Dat.dct); with_reducible exact upd_same)
  | ((with_reducible apply Dat.new); (with_reducible assumption); walk_at "dt")
  | ((with_reducible apply Dat.same'); (with_reducible assumption); walk_at "dt")
  | ((with_reducible apply Dat.but'); (with_reducible assumption); walk_at "pl"; walk_at "dt")
  | ((with_reducible apply Dat.ofE); (with_reducible assumption); omega)
  | ((with_reducible apply Dat.leaf); (with_reducible assumption); assumption; assumption; decide; omega))
local macro_rules | `(tactic| walk_at "dtl") => `(tactic| first
  | apply DatL.nil
  | ((with_reducible apply DatL.cons); walk_at "dt"; walk_at "dtl")
  | with_reducible assumption
  | apply (by assumption : ∀ b, DatL b _ _ _ _)
  | ((with_reducible apply DatL.up'); (first | (with_reducible assumption) | apply (by assumption : ∀ b, DatL b _ _ _ _)); omega)
  | ((with_reducible apply DatL.new); (with_reducible assumption); walk_at "dtl")
  | ((with_reducible apply DatL.same'); (with_reducible assumption); walk_at "dtl")
  | ((with_reducible apply DatL.but'); (with_reducible assumption); walk_at "pl"; walk_at "dtl"))
local macro_rules | `(tactic| walk_at "al") => `(tactic| first
  | exact AllD.nil
  | ((with_reducible apply AllD.cons); walk_at "dt"; omega; walk_at "al")
  | with_reducible assumption
  | ((with_reducible apply AllD.app); walk_at "al"; walk_at "al")
  | ((with_reducible apply AllD.new); (with_reducible assumption); walk_at "al")
  | ((with_reducible apply AllD.same'); (with_reducible assumption); walk_at "al")
  | ((with_reducible apply AllD.but'); (with_reducible assumption); walk_at "pl"; walk_at "al"))
local macro_rules | `(tactic| walk_at "pt") => `(tactic| first
  | with_reducible assumption
  | ((with_reducible apply PatAt.new); (with_reducible assumption); walk_at "pt")
  | ((with_reducible apply PatAt.same'); (with_reducible assumption); walk_at "pt")
  | ((with_reducible apply PatAt.but'); (with_reducible assumption); walk_at "pl"; walk_at "pt"))
local macro_rules | `(tactic| walk_at "db") => `(tactic| first
  | with_reducible assumption
  | ((with_reducible apply DatB.new); (with_reducible assumption); walk_at "db")
  | ((with_reducible apply DatB.same'); (with_reducible assumption); walk_at "db")
  | ((with_reducible apply DatB.but'); (with_reducible assumption); walk_at "pl"; walk_at "db"))
local macro_rules | `(tactic| walk_at "st") => `(tactic| first
  | (with_reducible show upd _ _ _ _ = some _); (walk_at "hp")
  | (with_reducible show L2.Same _ _); (walk_at "sm")
  | (with_reducible refine And.intro ?_ ?_)
  | exact rfl
  | with_reducible assumption
  | (with_reducible show DA _ _ _); (walk_at "da")
  | (with_reducible show PoolAt _ _); (walk_at "pl")
  | (with_reducible show Dat _ _ _ _ _); (walk_at "dt")
  | (with_reducible show Fit _ _ _ _); (walk_at "ft")
  | (with_reducible show PatAt _ _ _); (walk_at "pt")
  | (with_reducible show SameBut _ _ _); (walk_at "sb")
  | (with_reducible show _ ≤ sizeLine); (first | exact len_line _ rfl | exact len_line2 _ _ rfl rfl | decide | omega | exact Nat.le_trans (m := 200000) (by omega) (by decide) | exact Nat.le_trans (m := 200000) (by simp only [List.length_cons, List.length_nil]; omega) (by decide))
  | (with_reducible first | show (_ : Int) ≤ _ | show (_ : Int) < _ | show (_ : Nat) ≤ _ | show (_ : Nat) < _); (first | omega | (simp only [List.length_append]; omega) | (simp only [List.length_cons, List.length_nil]; omega) | (simp only [List.length_append, List.length_cons, List.length_nil]; omega) | exact Int.lt_of_lt_of_le (by assumption) (by decide))
  | exact cut1_not _ _
  | exact List.cons_ne_nil _ _
  | exact fun h => absurd h (List.cons_ne_nil _ _)
  | exact fun h => (h rfl).elim
  | (with_reducible show DatB _ _ _ _); (walk_at "db")
  | (with_reducible show AllD _ _ _ _); (walk_at "al")
  | exact Or.inl ⟨rfl, _, Or.inl (Or.inl (by walk_at "hp"))⟩
  | exact fun h => absurd h.1 (Nat.ne_of_beq_eq_false rfl)
  | exact fun h => absurd h.2 (Nat.ne_of_beq_eq_false rfl)
  | exact at0 _ _
  | exact at1 _ _ _
  | (refine And.intro ?_ ?_)
  | (fail_if_success first | show (∃ _ : Nat → Nat → L2.St → Hp → Prop, _) | show (∃ _ : Nat → Nat → Hp → Prop, _) | show (∃ _ : Nat → L2.St → Hp → Prop, _)); (apply Exists.intro)
  | (refine iteT' rfl ?_)
  | (refine iteF' rfl ?_)
  | walk_at "sq"
  | (with_reducible show _ = some _); (walk_at "hp")
  | intro _
  | assumption)
local macro_rules | `(tactic| walk_at "rd") => `(tactic| repeat walk_at "st")
theorem pow5 {d : Nat} (h : d ≤ 5) : 2 ^ d ≤ 32 := Nat.pow_le_pow_right (by decide) h
section
variable {P : Program} {w : World} {K : PySem.W.Frag} {mg : Str → Option Value} {base : Heap}
theorem g_law_right (T : Txt K mg) (g_law_draw : Gives P w K mg base CX0 1 "_law_draw" spDraw) (g_law_sketch : Gives P w K mg base CX0 11 "_law_sketch" (spSketch 8)) (g_law_all_ways : Gives P w K mg base CX0 1 "_law_all_ways" spWays14) (g_law_bent : Gives P w K mg base CX0 8 "_law_bent" (spBent 6)) (g_law_depth : Gives P w K mg base CX0 6 "_law_depth" (spDepth 6)) (g_law_tower : Gives P w K mg base CX0 4 "_law_tower" spTower) (g_law_told_right : GivesG P w K mg base CX0 17 "_law_told_right" spTold) : GivesG P w K mg base CX0 18 "_law_right" spRight := by
  refine givesG_fun T.d_law_right sc_law_right (fun _ _ _ _ _ _ us hl => match us, hl with | [_], _ => rfl) (fun vs H Q E h => ?_) (fun f cdv A outer s H vs Q E hgd hr h => ?_)
  · obtain ⟨c, rfl, _⟩ := h
    rfl
  · obtain ⟨c, rfl, hP, q⟩ := h
    refine ⟨_, (pss_cons (ps_for PassesOwn.never rfl (pi_range1 (by rfl) T.n_range (pa_cons pe_int pa_nil)) (pg_name (i := 1) sc_law_right.nd rfl (Or.inl rfl)) (pss_cons (ps_set (i := 2) sc_law_right.nd rfl (Or.inl rfl) (pe_own g_law_sketch (hr.mono (by decide)) (by rfl) pass0 (pa_cons (pv 0) (pa_cons (pe_op op_add pe_int (pe_own g_law_draw (hr.mono (by decide)) (by rfl) pass0 (pa_cons (pv 0) (pa_cons pe_int pa_nil)))) (pa_cons (pe_ix (ix_low [.int 3, .int 1000] 2 1 1000 [3, 1000] rfl rfl (by decide)) (pe_lst (pa_cons pe_int (pa_cons pe_int pa_nil))) (pe_own g_law_draw (hr.mono (by decide)) (by rfl) pass0 (pa_cons (pv 0) (pa_cons pe_int pa_nil))) (fun _ _ => rfl)) (pa_cons (pe_own0 g_law_all_ways (hr.mono (by decide)) (by rfl) pass0) pa_nil))))))
      (pss_cons (ps_set (i := 3) sc_law_right.nd rfl (Or.inl rfl) (pe_lst (pa_cons (pv 2) (pa_cons (pe_own g_law_bent (hr.mono (by decide)) (by rfl) pass0 (pa_cons (pv 0) (pa_cons (pv 2) pa_nil))) (pa_cons (pe_own g_law_bent (hr.mono (by decide)) (by rfl) pass0 (pa_cons (pv 0) (pa_cons (pv 2) pa_nil))) pa_nil)))))
      (pss_cons (ps_set (i := 4) sc_law_right.nd rfl (Or.inl rfl) (pe_op op_sub pe_int (pe_own g_law_depth (hr.mono (by decide)) (by rfl) pass0 (pa_cons (pv 2) pa_nil))))
      (pss_cons (ps_set (i := 3) sc_law_right.nd rfl (Or.inl rfl) (pe_op op_cat (pv 3) (pe_lst (pa_cons (pe_own g_law_tower (hr.mono (by decide)) (by rfl) pass0 (pa_cons (pv 0) (pa_cons (pv 2) (pa_cons (pv 4) pa_nil)))) (pa_cons (pe_own g_law_tower (hr.mono (by decide)) (by rfl) pass0 (pa_cons (pv 0) (pa_cons (pv 2) (pa_cons (pe_op op_add (pv 4) pe_int) pa_nil)))) pa_nil)))))
      (pss_cons (ps_expr (pe_bm PySem.F.plainAttrs_list PySem.F.slot_list_append PySem.F.type_list_append mt_append (pv 3) (pa_cons (pe_own g_law_tower (hr.mono (by decide)) (by rfl) pass0 (pa_cons (pv 0) (pa_cons (pe_ix ix_dat (pv 3) pe_int (fun _ _ => rfl)) (pa_cons pe_int pa_nil)))) pa_nil)))
      (pss_one (ps_if (pt_not (pt_val (pe_callB (cr_all rfl) (by rfl) T.n_all (by decide +kernel) (pa_cons (pe_lc (own := [("_law_thing", 5)]) rfl sc_law_right.nd (pi_list (pv 3)) (blkOk_by (N := ["_law_pool_here", "_law_turn", "_law_sketch_here", "_law_some", "_law_room", "_law_thing"]) (sc := defScope s_law_right) (by decide +kernel)) (fun _ _ _ _ _ => (pg_name (i := 5) sc_law_right.nd rfl (Or.inl rfl))) (fun _ _ _ _ _ => pts_nil) (fun _ _ _ _ _ => (pe_ownG g_law_told_right hgd (hr.mono (by decide)) (by rfl) pass0 (pa_cons (pv 5) pa_nil)))) pa_nil)))) (pss_one (ps_ret pe_bl)) pss_nil))))))))
      (pss_one (ps_ret (pe_ownG g_law_told_right hgd (hr.mono (by decide)) (by rfl) pass0 (pa_cons (pe_own g_law_tower (hr.mono (by decide)) (by rfl) pass0 (pa_cons (pv 0) (pa_cons pe_non (pa_cons pe_int pa_nil)))) pa_nil))))), ?_⟩
    walk_at "rd"
    refine for_range (lo := 0) (n := 12) (fun _ σ H' => SameBut c H H' ∧ PoolAt H' c ∧ ∃ y1 y2 y3 y4 y5, σ = [some (.ref c), y1, y2, y3, y4, y5]) ⟨SameBut.refl _ _, hP, none, none, none, none, none, rfl⟩ (fun i σ G hi hI => ?_) (fun σ G hI => ?_)
    · obtain ⟨s0, P0, y1, y2, y3, y4, y5, rfl⟩ := hI
      refine seq_then (fun σ' H' => ∃ a p, σ' = [some (.ref c), some (.int (0 + (i : Int))), some (.ref a), y3, y4, y5] ∧ SameBut c H H' ∧ PoolAt H' c ∧ PatAt H' (.ref a) p ∧ p.ok 1000 ∧ p.depth ≤ 5) ?_ (fun U hU => ?_)
      rotate_left
      · walk_at "rd"
        rename_i v p sx Px hp ho hd
        have ho2 := Pat.ok_mono (k := 1000) (by omega) ho
        obtain ⟨a, _, e, _⟩ := PatAt.parts (by decide) hp ho2
        subst e
        exact hU _ _ ⟨a, p, rfl, by walk_at "sb", by walk_at "pl", hp, ho2, by omega⟩
      rintro σ' H1 ⟨a, p, rfl, s1, P1, hp, ho, hd5⟩
      clear s0 P0 G
      have h32 := pow5 hd5
      have hdp := p.depth_pos
      have hvD : Dat false 3200 5 H1 (.ref a) := (PatAt.dat (b := false) (by decide) hp ho).mono (by omega) hd5
      refine seq_then (fun σ' H' => ∃ l r1 r2, σ' = [some (.ref c), some (.int (0 + (i : Int))), some (.ref a), some (.ref l), y4, y5] ∧ SameBut c H H' ∧ PoolAt H' c ∧ PatAt H' (.ref a) p ∧ Dat false 3200 5 H' (.ref a) ∧ H' l = some (.lst [.ref a, r1, r2]) ∧ AllD 20000 40 H' [.ref a, r1, r2]) ?_ (fun U hU => ?_)
      rotate_left
      · walk_at "rd"
        exact hU _ _ ⟨_, _, _, rfl, by walk_at "sb", by walk_at "pl", by walk_at "pt", by walk_at "dt", upd_same, by (walk_at "al"); all_goals exact true⟩
      rintro σ' H2 ⟨l, r1, r2, rfl, s2, P2, hp2, hv2, hl2, hA2⟩
      clear s1 P1 hp hvD H1
      refine seq_then (fun σ' H' => σ' = [some (.ref c), some (.int (0 + (i : Int))), some (.ref a), some (.ref l), some (.int (12 - (p.depth : Int))), y5] ∧ SameBut c H H' ∧ PoolAt H' c ∧ PatAt H' (.ref a) p ∧ Dat false 3200 5 H' (.ref a) ∧ H' l = some (.lst [.ref a, r1, r2]) ∧ AllD 20000 40 H' [.ref a, r1, r2]) ?_ (fun U hU => ?_)
      rotate_left
      · walk_at "rd"
        exact hU _ _ ⟨rfl, by walk_at "sb", by walk_at "pl", by walk_at "pt", by walk_at "dt", by walk_at "hp", by walk_at "al"⟩
      rintro σ' H3 ⟨rfl, s3, P3, hp3, hv3, hl3, hA3⟩
      clear s2 P2 hp2 hv2 hl2 hA2 H2
      refine seq_then (fun σ' H' => ∃ l2 ys, σ' = [some (.ref c), some (.int (0 + (i : Int))), some (.ref a), some (.ref l2), some (.int (12 - (p.depth : Int))), y5] ∧ SameBut c H H' ∧ PoolAt H' c ∧ H l2 = none ∧ H' l2 = some (.lst ys) ∧ ys.length = 5 ∧ npool ys = true ∧ AllD 20000 40 H' ys) ?_ (fun U hU => ?_)
      rotate_left
      · walk_at "rd"
        rename_i l2 nl2
        exact hU _ _ ⟨_, _, rfl, by walk_at "sb", by walk_at "pl", sb_free (by walk_at "sb") (by walk_at "pl") nl2, upd_same, rfl, rfl, by (walk_at "al"); all_goals exact true⟩
      rintro σ' H4 ⟨l2, ys, rfl, s4, P4, n4, hl4, hn4, hq4, hA4⟩
      clear s3 P3 hp3 hv3 hl3 hA3 H3
      refine seq_then (fun σ' H' => ∃ zs, σ' = [some (.ref c), some (.int (0 + (i : Int))), some (.ref a), some (.ref l2), some (.int (12 - (p.depth : Int))), y5] ∧ SameBut c H H' ∧ PoolAt H' c ∧ H' l2 = some (.lst zs) ∧ zs.length = 6 ∧ AllD 30000 50 H' zs) ?_ (fun U hU => ?_)
      rotate_left
      · walk_at "rd"
        exact Nat.lt_of_le_of_lt (Nat.le_of_eq hn4) (by decide)
        rename_i v b hb H5 r b' s5 P5 hr5
        have hl5 : H5 l2 = some (.lst ys) := by walk_at "hp"
        have hA5 : AllD 20000 40 H5 ys := by walk_at "al"
        have hZ : AllD 30000 50 H5 (ys ++ [r]) := AllD.app (hA5.mono (by decide) (by decide)) (.cons (hr5.mono (k := 30000) (j := 50) (by decide) (by decide)) (Nat.le_refl _) .nil)
        exact hU _ _ ⟨_, rfl, sb_upd n4 (by walk_at "sb"), PoolAt.over hl5 hq4 P5, upd_same, by rw [List.length_append, hn4]; rfl, hZ.long hl5 (by omega)⟩
      rintro σ' H5 ⟨zs, rfl, s5, P5, hl5, hn5, hA5⟩
      clear s4 P4 n4 hl4 hn4 hq4 hA4 H4 ys
      refine nx_hide fun U hU => ?_
      walk_at "rd"
      refine lc_mapL (xs := zs) (G := fun _ y => y = .bl true) (fun H s => .inl (.inl (s _ _ hl5))) (by assumption) (by omega) (fun _ => rfl) (fun j x H6 R hx s6 r => ?_) (fun H6 ys s6 hd6 hl6 hg => ?_)
      · obtain ⟨b, hb⟩ := (AllD.same' s6 hA5) x (List.mem_of_getElem? hx)
        walk_at "rd"
        exact r _ _ (by walk_at "sm") rfl
      · have ey := bools_of (f := fun _ => true) hl6 hg
        subst ey
        walk_at "rd"
        refine iteF' (by simp) ?_
        exact hU _ _ ⟨by walk_at "sb", by walk_at "pl", _, _, _, _, _, rfl⟩
    · obtain ⟨s0, P0, y1, y2, y3, y4, y5, rfl⟩ := hI
      have hN : Dat false 4 1 G .non := Dat.non
      walk_at "rd"
      exact q _ (by walk_at "sb") (by walk_at "pl")
end
end Cb

end

section
set_option maxRecDepth 100000
set_option maxHeartbeats 4000000
namespace Cb
open PySem PySem.Spec PyProof.Rows L2
local macro_rules | `(tactic| walk_at "pl") => `(tactic| first
  | with_reducible assumption
  | ((with_reducible apply PoolAt.new); (with_reducible assumption); walk_at "pl")
  | ((with_reducible apply PoolAt.same'); (with_reducible assumption); walk_at "pl"))
local macro_rules | `(tactic| walk_at "hp") => `(tactic| first
  | with_reducible assumption
  | with_reducible exact upd_same
  | ((with_reducible apply upd_new); (with_reducible assumption); walk_at "hp")
  | ((with_reducible apply hp_same); (with_reducible assumption); walk_at "hp")
  | ((with_reducible apply but_tup); (with_reducible assumption); walk_at "pl"; walk_at "hp")
  | ((with_reducible apply but_lst); (with_reducible assumption); walk_at "pl"; walk_at "hp"; first | exact rfl | assumption | exact npool_app (by omega)))
local macro_rules | `(tactic| walk_at "da") => `(tactic| first
  | with_reducible assumption
  | with_reducible exact DA.int _
  | with_reducible exact DA.str _
  | with_reducible exact DA.bl _
  | with_reducible exact DA.non
  | ((with_reducible apply DA.tup); (with_reducible exact upd_same); walk_at "dal")
  | ((with_reducible apply DA.lst); (with_reducible exact upd_same); exact rfl; exact rfl; walk_at "dal")
  | with_reducible exact DA.dct upd_same
  | ((with_reducible apply DA.new); (with_reducible assumption); walk_at "da")
  | ((with_reducible apply DA.same'); (with_reducible assumption); walk_at "da")
  | ((with_reducible apply DA.but'); (with_reducible assumption); walk_at "pl"; walk_at "da"))
local macro_rules | `(tactic| walk_at "dal") => `(tactic| first
  | exact DAll.nil
  | (apply DAll.cons; walk_at "da"; walk_at "dal"))
local macro_rules | `(tactic| walk_at "ft") => `(tactic| first
  | with_reducible assumption
  | apply Fit.non'
  | apply Fit.bl'
  | (apply Fit.str (n := 20); decide +kernel)
  | (apply Fit.int'; first | decide | omega)
  | (apply Fit.tup'; walk_at "fta")
  | (apply Fit.lst'; walk_at "fta"))
local macro_rules | `(tactic| walk_at "fta") => `(tactic| first
  | apply FitAll.nil'
  | (apply FitAll.cons'; walk_at "ft"; walk_at "fta"))
local macro_rules | `(tactic| walk_at "sm") => `(tactic| first
  | with_reducible assumption
  | with_reducible exact L2.Same.refl _
  | ((with_reducible apply sm_new); (with_reducible assumption); walk_at "sm")
  | ((with_reducible apply sm_same); (with_reducible assumption); walk_at "sm"))
local macro_rules | `(tactic| walk_at "sb") => `(tactic| first
  | with_reducible assumption
  | with_reducible exact SameBut.refl _ _
  | ((with_reducible apply sb_new); (with_reducible assumption); walk_at "sb")
  | ((with_reducible apply sb_but); (with_reducible assumption); walk_at "sb")
  | ((with_reducible apply sb_same); (with_reducible assumption); walk_at "sb"))
local macro_rules | `(tactic| walk_at "sq") => `(tactic| first
  | (refine Or.inl (Or.inl ?_); walk_at "hp")
  | (refine Or.inr (Or.inl (Or.inl ?_)); walk_at "hp")
  | (refine Or.inl (Or.inl (Or.inl ?_)); walk_at "hp")
  | exact (by assumption : ∀ H', SqT _ H' _ _) _
  | exact Or.inr ((by assumption : ∀ H', SqT _ H' _ _) _))
local macro_rules | `(tactic| walk_at "dt") => `(tactic| first
  | with_reducible assumption
  | apply (by assumption : ∀ b, Dat b _ _ _ _)
  | (with_reducible apply Dat.non)
  | (with_reducible apply Dat.bl)
  | ((with_reducible apply Dat.str); first | decide +kernel | exact name_short _)
  | ((with_reducible apply Dat.int); first | decide | omega)
  | ((with_reducible apply Dat.up'); (first | (with_reducible assumption) | apply (by assumption : ∀ b, Dat b _ _ _ _)); omega)
  | ((with_reducible apply Dat.tup); (with_reducible exact upd_same); walk_at "dtl")
  | ((with_reducible apply Dat.lst); (with_reducible exact upd_same); (first | exact rfl | assumption); (first | exact rfl | assumption); walk_at "dtl")
  | ((with_reducible apply Dat.dct); with_reducible exact upd_same)
  | ((with_reducible apply Dat.new); (with_reducible assumption); walk_at "dt")
  | ((with_reducible apply Dat.same'); (with_reducible assumption); walk_at "dt")
  | ((with_reducible apply Dat.but'); (with_reducible assumption); walk_at "pl"; walk_at "dt")
  | ((with_reducible apply Dat.ofE); (with_reducible assumption); omega)
  | ((with_reducible apply Dat.leaf); (with_reducible assumption); assumption; assumption; decide; omega))
local macro_rules | `(tactic| walk_at "dtl") => `(tactic| first
  | apply DatL.nil
  | ((with_reducible apply DatL.cons); walk_at "dt"; walk_at "dtl")
  | with_reducible assumption
  | apply (by assumption : ∀ b, DatL b _ _ _ _)
  | ((with_reducible apply DatL.up'); (first | (with_reducible assumption) | apply (by assumption : ∀ b, DatL b _ _ _ _)); omega)
  | ((with_reducible apply DatL.new); (with_reducible assumption); walk_at "dtl")
  | ((with_reducible apply DatL.same'); (with_reducible assumption); walk_at "dtl")
  | ((with_reducible apply DatL.but'); (with_reducible assumption); walk_at "pl"; walk_at "dtl"))
local macro_rules | `(tactic| walk_at "al") => `(tactic| first
  | exact AllD.nil
  | ((with_reducible apply AllD.cons); walk_at "dt"; omega; walk_at "al")
  | with_reducible assumption
  | ((with_reducible apply AllD.app); walk_at "al"; walk_at "al")
  | ((with_reducible apply AllD.new); (with_reducible assumption); walk_at "al")
  | ((with_reducible apply AllD.same'); (with_reducible assumption); walk_at "al")
  | ((with_reducible apply AllD.but'); (with_reducible assumption); walk_at "pl"; walk_at "al"))
local macro_rules | `(tactic| walk_at "pt") => `(tactic| first
  | with_reducible assumption
  | ((with_reducible apply PatAt.new); (with_reducible assumption); walk_at "pt")
  | ((with_reducible apply PatAt.same'); (with_reducible assumption); walk_at "pt")
  | ((with_reducible apply PatAt.but'); (with_reducible assumption); walk_at "pl"; walk_at "pt"))
local macro_rules | `(tactic| walk_at "db") => `(tactic| first
  | with_reducible assumption
  | ((with_reducible apply DatB.new); (with_reducible assumption); walk_at "db")
  | ((with_reducible apply DatB.same'); (with_reducible assumption); walk_at "db")
  | ((with_reducible apply DatB.but'); (with_reducible assumption); walk_at "pl"; walk_at "db"))
local macro_rules | `(tactic| walk_at "st") => `(tactic| first
  | (with_reducible show upd _ _ _ _ = some _); (walk_at "hp")
  | (with_reducible show L2.Same _ _); (walk_at "sm")
  | (with_reducible refine And.intro ?_ ?_)
  | exact rfl
  | with_reducible assumption
  | (with_reducible show DA _ _ _); (walk_at "da")
  | (with_reducible show PoolAt _ _); (walk_at "pl")
  | (with_reducible show Dat _ _ _ _ _); (walk_at "dt")
  | (with_reducible show Fit _ _ _ _); (walk_at "ft")
  | (with_reducible show PatAt _ _ _); (walk_at "pt")
  | (with_reducible show SameBut _ _ _); (walk_at "sb")
  | (with_reducible show _ ≤ sizeLine); (first | exact len_line _ rfl | exact len_line2 _ _ rfl rfl | decide | omega | exact Nat.le_trans (m := 200000) (by omega) (by decide) | exact Nat.le_trans (m := 200000) (by simp only [List.length_cons, List.length_nil]; omega) (by decide))
  | (with_reducible first | show (_ : Int) ≤ _ | show (_ : Int) < _ | show (_ : Nat) ≤ _ | show (_ : Nat) < _); (first | omega | (simp only [List.length_append]; omega) | (simp only [List.length_cons, List.length_nil]; omega) | (simp only [List.length_append, List.length_cons, List.length_nil]; omega) | exact Int.lt_of_lt_of_le (by assumption) (by decide))
  | exact cut1_not _ _
  | exact List.cons_ne_nil _ _
  | exact fun h => absurd h (List.cons_ne_nil _ _)
  | exact fun h => (h rfl).elim
  | (with_reducible show DatB _ _ _ _); (walk_at "db")
  | (with_reducible show AllD _ _ _ _); (walk_at "al")
  | exact Or.inl ⟨rfl, _, Or.inl (Or.inl (by walk_at "hp"))⟩
  | exact fun h => absurd h.1 (Nat.ne_of_beq_eq_false rfl)
  | exact fun h => absurd h.2 (Nat.ne_of_beq_eq_false rfl)
  | exact at0 _ _
  | exact at1 _ _ _
  | (refine And.intro ?_ ?_)
  | (fail_if_success first | show (∃ _ : Nat → Nat → L2.St → Hp → Prop, _) | show (∃ _ : Nat → Nat → Hp → Prop, _) | show (∃ _ : Nat → L2.St → Hp → Prop, _)); (apply Exists.intro)
  | (refine iteT' rfl ?_)
  | (refine iteF' rfl ?_)
  | walk_at "sq"
  | (with_reducible show _ = some _); (walk_at "hp")
  | intro _
  | assumption)
local macro_rules | `(tactic| walk_at "rd") => `(tactic| repeat walk_at "st")
section
variable {P : Program} {w : World} {K : PySem.W.Frag} {mg : Str → Option Value} {base : Heap}
theorem g_law (T : Txt K mg) (g_law_cell : Gives P w K mg base CX0 1 "_law_cell" (spCell K)) (g_law_pool : Gives P w K mg base CX0 1 "_law_pool" spPool) (g_law_right : GivesG P w K mg base CX0 18 "_law_right" spRight) (g_law_told_right : GivesG P w K mg base CX0 17 "_law_told_right" spTold) : GivesG P w K mg base CX0 19 "law" (spLaw K) := by
  refine givesG_fun T.d_law sc_law (fun _ _ _ _ _ _ us hl => match us, hl with | [_], _ => rfl) (fun vs H Q E h => ?_) (fun f cdv A outer s H vs Q E hgd hr h => ?_)
  · obtain ⟨a, ns, rfl, _⟩ := h
    rfl
  · obtain ⟨a, ns, rfl, hS, hl, hbit, q⟩ := h
    refine ⟨_, (pss_cons (ps_set (i := 1) sc_law.nd rfl (Or.inl rfl) (pe_tup (pa_cons pe_str (pa_cons pe_int pa_nil))))
      (pss_cons (ps_for PassesOwn.never rfl (pi_range1 (by rfl) T.n_range (pa_cons pe_int pa_nil)) (pg_name (i := 2) sc_law.nd rfl (Or.inl rfl)) (pss_one (ps_set (i := 1) sc_law.nd rfl (Or.inl rfl) (pe_tup (pa_cons pe_str (pa_cons (pv 1) pa_nil))))))
      (pss_cons (ps_if (pt_not (pt_val (pe_ownG g_law_told_right hgd (hr.mono (by decide)) (by rfl) pass0 (pa_cons (pv 1) pa_nil)))) (pss_one (ps_ret pe_bl)) pss_nil)
      (pss_cons (ps_set (i := 3) sc_law.nd rfl (Or.inl rfl) (pe_lst (pa_cons pe_non (pa_cons pe_bl (pa_cons pe_int (pa_cons pe_str (pa_cons pe_str (pa_cons (pe_tup pa_nil) (pa_cons (pe_lst pa_nil) (pa_cons pe_dnewK (pa_cons (pe_tup (pa_cons pe_str (pa_cons pe_int pa_nil))) (pa_cons (pe_lst (pa_cons pe_str (pa_cons pe_int pa_nil))) pa_nil))))))))))))
      (pss_cons (ps_for PassesOwn.never rfl (pi_list (pe_op op_cat (pv 3) (pe_lst (pa_cons (pe_tup (pa_cons pe_str (pa_cons pe_int pa_nil))) (pa_cons (pe_tup (pa_cons pe_str (pa_cons pe_int pa_nil))) pa_nil))))) (pg_name (i := 4) sc_law.nd rfl (Or.inl rfl)) (pss_one (ps_if (pt_not (pt_val (pe_ownG g_law_told_right hgd (hr.mono (by decide)) (by rfl) pass0 (pa_cons (pv 4) pa_nil)))) (pss_one (ps_ret pe_bl)) pss_nil)))
      (pss_one (ps_ret (pe_callB (cr_all rfl) (by rfl) T.n_all (by decide +kernel) (pa_cons (pe_lc (own := [("_law_k", 5)]) rfl sc_law.nd (pi_range1 (by rfl) T.n_range (pa_cons (pe_callB (call_max2 rfl) (by rfl) T.n_max (by decide +kernel) (pa_cons pe_int (pa_cons (pe_callB (call_min2 rfl) (by rfl) T.n_min (by decide +kernel) (pa_cons (pe_callB call_len_seq (by rfl) T.n_len (by decide +kernel) (pa_cons (pv 0) pa_nil)) (pa_cons pe_int pa_nil))) pa_nil))) pa_nil)) (blkOk_by (N := ["_law_script", "_law_deep", "_law_turn", "_law_fixed", "_law_thing", "_law_k"]) (sc := defScope s_law) (by decide +kernel)) (fun _ _ _ _ _ => (pg_name (i := 5) sc_law.nd rfl (Or.inl rfl))) (fun _ _ _ _ _ => pts_nil) (fun _ _ _ _ _ => (pe_ownG g_law_right hgd (hr.mono (by decide)) (by rfl) pass0 (pa_cons (pe_own g_law_pool (hr.mono (by decide)) (by rfl) pass0 (pa_cons (pe_own g_law_cell (hr.mono (by decide)) (by rfl) pass0 (pa_cons (pv 0) (pa_cons (pv 5) pa_nil))) pa_nil)) pa_nil)))) pa_nil))))))))), ?_⟩
    refine seq_then (fun σ' H' => ∃ v, σ' = [some (.ref a), some v, none, none, none, none] ∧ L2.Same H H' ∧ Dat false 100 1 H' v) ?_ (fun U hU => ?_)
    rotate_left
    · walk_at "rd"
      exact hU _ _ ⟨_, rfl, by walk_at "sm", Dat.mono (Dat.tup (m := 0) upd_same (.cons (Dat.str (by decide +kernel)) (.cons (Dat.int (by decide)) .nil))) (by decide) (by decide)⟩
    rintro σ' H1 ⟨v0, rfl, s1, hv0⟩
    walk_at "rd"
    refine for_range (lo := 0) (n := 299) (fun i σ H' => ∃ v y2, σ = [some (.ref a), some v, y2, none, none, none] ∧ L2.Same H H' ∧ Dat false (100 + 40 * i) (1 + i) H' v) ⟨v0, none, rfl, s1, hv0⟩ (fun i σ H2 hi hI => ?_) (fun σ H2 hI => ?_)
    · obtain ⟨v, y2, rfl, s2, hv⟩ := hI
      refine nx_hide fun U hU => ?_
      walk_at "rd"
      refine hU _ _ ⟨_, _, rfl, by walk_at "sm", Dat.mono (Dat.tup (m := 1 + i) upd_same (.cons (Dat.str (by decide +kernel)) (.cons (Dat.new (by assumption) hv) .nil))) (by omega) (by omega)⟩
    obtain ⟨v, y2, rfl, s2, hv⟩ := hI
    clear hv0 s1 H1
    dsimp only
    refine seq_then (fun σ' H' => σ' = [some (.ref a), some v, y2, none, none, none] ∧ L2.Same H H') ?_ (fun U hU => ?_)
    rotate_left
    · walk_at "rd"
      exact hU _ _ ⟨rfl, by walk_at "sm"⟩
    rintro σ' H3 ⟨rfl, s3⟩
    clear hv s2 H2
    refine seq_then (fun σ' H' => ∃ l xs, σ' = [some (.ref a), some v, y2, some (.ref l), none, none] ∧ L2.Same H H' ∧ H' l = some (.lst xs) ∧ xs.length = 10 ∧ AllD 300 5 H' xs) ?_ (fun U hU => ?_)
    rotate_left
    · walk_at "rd"
      exact hU _ _ ⟨_, _, rfl, by walk_at "sm", upd_same, rfl, by (walk_at "al"); all_goals exact true⟩
    rintro σ' H4 ⟨l, xs, rfl, s4, hl4, hn4, hA4⟩
    clear s3 H3
    walk_at "rd"
    rename_i u1 n1 u2 n2 l1 m1 l2 m2
    exact ⟨_, .inl (.inl upd_same)⟩
    rename_i u1 n1 u2 n2 l1 m1 l2 m2
    refine for_list (xs := xs ++ [.ref u1, .ref u2]) (fun i σ H' => ∃ y4, σ = [some (.ref a), some v, y2, some (.ref l), y4, none] ∧ L2.Same H H' ∧ H' l2 = some (.lst (xs ++ [.ref u1, .ref u2])) ∧ AllD 300 5 H' (xs ++ [.ref u1, .ref u2])) ⟨none, rfl, by walk_at "sm", upd_same, by (walk_at "al"); all_goals exact true⟩ (fun i σ G _ hI => ?_) (fun i x σ G hx hI => ?_) (fun σ G hI => ?_)
    · obtain ⟨y4, _, _, h, _⟩ := hI
      exact .inl (.inl h)
    · obtain ⟨y4, rfl, s5, hl5, hA5⟩ := hI
      obtain ⟨b, hb⟩ := hA5 x (List.mem_of_getElem? hx)
      refine nx_hide fun U hU => ?_
      walk_at "rd"
      exact hU _ _ ⟨_, rfl, by walk_at "sm", by walk_at "hp", by walk_at "al"⟩
    obtain ⟨y4, rfl, uE, _, _⟩ := hI
    have hS2 := L2.Same.seq uE hS
    have hlen : (((ns.map V.int).length : Nat) : Int) = (ns.length : Int) := by rw [List.length_map]
    refine ⟨_, rfl, a, _, rfl, .inl hS2, _, _, rfl, _, _, rfl, _, rfl, by rw [hlen]; split <;> split <;> omega, by rw [hlen]; split <;> split <;> omega, fun D nD => ?_⟩
    refine lc_range (fun i H' => L2.Same H H' ∧ H' D = some (.lst ((List.replicate i true).map V.bl))) ⟨L2.Same.trans uE (same_upd nD), upd_same⟩ (fun i H' hi hI => ?_) (fun H' hI => ?_)
    · obtain ⟨sm, hD⟩ := hI
      have hi63 : i < 1000 := by
        have h2 := hi
        rw [hlen] at h2
        split at h2 <;> split at h2 <;> omega
      refine ⟨rfl, ⟨_, rfl, _, rfl, a, ns, _, rfl, L2.Same.seq sm hS, hl, by omega, by omega, fun H1 r s1 => ⟨r, rfl, fun H2 p s2 np P2 => ⟨p, rfl, P2, fun H3 s3 P3 => ?_⟩⟩⟩⟩
      have hD2 : H2 D = some (.lst ((List.replicate i true).map V.bl)) := s2 _ _ (s1 _ _ hD)
      have nDp : D ≠ p := ne_of_none (s1 _ _ hD) np
      refine ⟨_, s3.at hD2 nDp, by rw [List.length_map, List.length_replicate]; exact Nat.lt_of_lt_of_le hi63 (by decide), fun v ov hv => ?_, ?_⟩
      · have nv : v ≠ D := ne_of_none hv (L2.Same.free uE nD)
        have nv2 : v ≠ p := ne_of_none (s1 _ _ (sm _ _ hv)) np
        rw [upd_ne nv]
        exact s3.at (s2 _ _ (s1 _ _ (sm _ _ hv))) nv2
      · rw [upd_same, List.replicate_succ', List.map_append]
        rfl
    · obtain ⟨sm, hD⟩ := hI
      exact ⟨D, _, rfl, .inl (.inl hD), bl_cast (by simp) (q _)⟩
end
end Cb

end

section
set_option maxRecDepth 100000
set_option maxHeartbeats 4000000
namespace Cb
open PySem PySem.Spec PyProof.Rows L2
section
variable {P : Program} {w : World} {K : PySem.W.Frag} {mg : Str → Option Value} {base : Heap}
theorem lv_below (T : Txt K mg) (g : Gives P w K mg base CX0 2 "is_word" spIsWordD) : ∀ m, Gives P w K mg base CX0 (2 + m) "is_pattern_below" (spBelowD m)
  | 0 => gives_none T.d_is_pattern_below fun vs H Q E ⟨v, d, k, _, _, h0, hk, _⟩ => by omega
  | m + 1 => st_is_pattern_below T m g (lv_below T g m)
theorem lv_sk (T : Txt K mg) (g : Gives P w K mg base CX0 1 "_law_all_ways" spWays14) : ∀ m, Gives P w K mg base CX0 (1 + m) "_law_is_sketch" (spSk m)
  | 0 => gives_none T.d_law_is_sketch fun vs H Q E ⟨v, d, k, _, _, h0, hk, _⟩ => by omega
  | m + 1 => st_law_is_sketch T m g (lv_sk T g m)
theorem lv_depth (T : Txt K mg) : ∀ m, Gives P w K mg base CX0 (0 + m) "_law_depth" (spDepth m)
  | 0 => gives_none T.d_law_depth fun vs H Q E ⟨v, p, _, _, _, h, _⟩ => by have := p.depth_pos; omega
  | m + 1 => st_law_depth T m (lv_depth T m)
theorem lv_bent (T : Txt K mg) (g1 : Gives P w K mg base CX0 1 "_law_draw" spDraw) (g2 : Gives P w K mg base CX0 2 "_law_odd_part" spOdd) : ∀ m, Gives P w K mg base CX0 (2 + m) "_law_bent" (spBent m)
  | 0 => gives_none T.d_law_bent fun vs H Q E ⟨c, v, p, _, _, _, _, h, _⟩ => by have := p.depth_pos; omega
  | m + 1 => st_law_bent T m g1 g2 (lv_bent T g1 g2 m)
theorem lv_sketch (T : Txt K mg) (g1 : Gives P w K mg base CX0 1 "_law_draw" spDraw) (g2 : Gives P w K mg base CX0 3 "_law_leaf_sketch" spLeaf) : ∀ m, Gives P w K mg base CX0 (3 + m) "_law_sketch" (spSketch m)
  | 0 => gives_none T.d_law_sketch fun vs H Q E ⟨c, d, m', wa, _, _, _, _, _, h, _⟩ => by omega
  | m + 1 => st_law_sketch T m g1 g2 (lv_sketch T g1 g2 m)
end
theorem fin {P : Program} {w : World} {K : PySem.W.Frag} {mg : Str → Option Value} {fa : Addr} {h : Heap} (X : K.In h) (T : Txt K mg) (hmg : mg "law" = some (.ref fa)) :
    ∀ base : Heap, K.In base → base.Ns mainGlobals mg → FnG P w K mg base CX0 19 fa (spLaw K) := by
  intro base _ _
  have i1 := g_is_integer (P := P) (w := w) (base := base) T
  have i2 := g_is_word T i1
  have k1 := g_law_cell (P := P) (w := w) (base := base) T
  have k2 := g_law_pool (P := P) (w := w) (base := base) T
  have k3 := g_law_draw (P := P) (w := w) (base := base) T
  have k4 := g_law_figure T k3
  have l1 := g_law_leaf_sketch T k3 k4
  have ws := g_law_all_ways (P := P) (w := w) (base := base) T
  have p1 := g_is_pattern T (lv_below T i2 13)
  have p2 := gk_is_pattern T (lv_below T i2 13)
  have t1 := g_law_told_right T p2 p1 (lv_sk T ws 13)
  have o1 := g_law_odd_part T k3
  have w1 := g_law_tower T k3 ws l1
  have r := g_law_right T k3 (lv_sketch T k3 l1 8) ws (lv_bent T k3 o1 6) (lv_depth T 6) w1 t1
  obtain ⟨f, hm, hk, F⟩ := g_law T k1 k2 r t1
  have e : f = fa := by
    have e2 := hm.symm.trans hmg
    injection e2 with e3
    injection e3
  subst e
  exact F
end Cb

end
open PySem PySem.W PyProof.Rows
set_option maxRecDepth 100000 in
set_option maxHeartbeats 0 in
theorem PySem.Challenge.cw_codeback_k61_patterns_told_holds : PySem.Challenge.rw_codeback_k61_patterns_told.Holds := by
  w_on; o_law; k_head; (case hw => w_witness2)
  k_fill
  refine Cb.walk_ofG (l := PySem.Challenge.rw_codeback_k61_patterns_told) (n := 63) (k := 19) (CX := fun _ => L2.CX0) (sp := fun w => Cb.spLaw _) rfl (by decide) rfl ⟨rfl, by decide, by decide⟩ (fun w h Y => PySem.W.kIn_of Y) ?F (fun _ _ a ns hl hb hS => ⟨a, ns, rfl, hS, hl, hb, fun _ => rfl⟩) (fun _ _ _ _ _ h => h)
  case F =>
    intro w mg fa h KX G hmg
    refine Cb.fin KX ?T hmg
    case T =>
      refine' ⟨?d0, ?d1, ?d2, ?d3, ?d4, ?d5, ?d6, ?d7, ?d8, ?d9, ?d10, ?d11, ?d12, ?d13, ?d14, ?d15, ?d16, ?d17, ?d18, ?b0, ?b1, ?b2, ?b3, ?b4, ?b5, ?b6, ?b7, ?b8, ?b9, ?b10, ?b11, ?b12, ?b13, ?c0, ?c1, ?c2, ?c3, ?c4, ?c5⟩
      case d0 => refine' Cb.stands_mk KX G ?a ?l ?c ?k; (case a => k_is); (case l => k_is); (case c => k_is); (case k => k_is)
      case d1 => refine' Cb.stands_mk KX G ?a ?l ?c ?k; (case a => k_is); (case l => k_is); (case c => k_is); (case k => k_is)
      case d2 => refine' Cb.stands_mk KX G ?a ?l ?c ?k; (case a => k_is); (case l => k_is); (case c => k_is); (case k => k_is)
      case d3 => refine' Cb.stands_mk KX G ?a ?l ?c ?k; (case a => k_is); (case l => k_is); (case c => k_is); (case k => k_is)
      case d4 => refine' Cb.stands_mk KX G ?a ?l ?c ?k; (case a => k_is); (case l => k_is); (case c => k_is); (case k => k_is)
      case d5 => refine' Cb.stands_mk KX G ?a ?l ?c ?k; (case a => k_is); (case l => k_is); (case c => k_is); (case k => k_is)
      case d6 => refine' Cb.stands_mk KX G ?a ?l ?c ?k; (case a => k_is); (case l => k_is); (case c => k_is); (case k => k_is)
      case d7 => refine' Cb.stands_mk KX G ?a ?l ?c ?k; (case a => k_is); (case l => k_is); (case c => k_is); (case k => k_is)
      case d8 => refine' Cb.stands_mk KX G ?a ?l ?c ?k; (case a => k_is); (case l => k_is); (case c => k_is); (case k => k_is)
      case d9 => refine' Cb.stands_mk KX G ?a ?l ?c ?k; (case a => k_is); (case l => k_is); (case c => k_is); (case k => k_is)
      case d10 => refine' Cb.stands_mk KX G ?a ?l ?c ?k; (case a => k_is); (case l => k_is); (case c => k_is); (case k => k_is)
      case d11 => refine' Cb.stands_mk KX G ?a ?l ?c ?k; (case a => k_is); (case l => k_is); (case c => k_is); (case k => k_is)
      case d12 => refine' Cb.stands_mk KX G ?a ?l ?c ?k; (case a => k_is); (case l => k_is); (case c => k_is); (case k => k_is)
      case d13 => refine' Cb.stands_mk KX G ?a ?l ?c ?k; (case a => k_is); (case l => k_is); (case c => k_is); (case k => k_is)
      case d14 => refine' Cb.stands_mk KX G ?a ?l ?c ?k; (case a => k_is); (case l => k_is); (case c => k_is); (case k => k_is)
      case d15 => refine' Cb.stands_mk KX G ?a ?l ?c ?k; (case a => k_is); (case l => k_is); (case c => k_is); (case k => k_is)
      case d16 => refine' Cb.stands_mk KX G ?a ?l ?c ?k; (case a => k_is); (case l => k_is); (case c => k_is); (case k => k_is)
      case d17 => refine' Cb.stands_mk KX G ?a ?l ?c ?k; (case a => k_is); (case l => k_is); (case c => k_is); (case k => k_is)
      case d18 => refine' Cb.stands_mk KX G ?a ?l ?c ?k; (case a => k_is); (case l => k_is); (case c => k_is); (case k => k_is)
      case b0 => refine' PySem.W.mg_none_of KX G ?z; (case z => k_is)
      case b1 => refine' PySem.W.mg_none_of KX G ?z; (case z => k_is)
      case b2 => refine' PySem.W.mg_none_of KX G ?z; (case z => k_is)
      case b3 => refine' PySem.W.mg_none_of KX G ?z; (case z => k_is)
      case b4 => refine' PySem.W.mg_none_of KX G ?z; (case z => k_is)
      case b5 => refine' PySem.W.mg_none_of KX G ?z; (case z => k_is)
      case b6 => refine' PySem.W.mg_none_of KX G ?z; (case z => k_is)
      case b7 => refine' PySem.W.mg_none_of KX G ?z; (case z => k_is)
      case b8 => refine' PySem.W.mg_none_of KX G ?z; (case z => k_is)
      case b9 => refine' PySem.W.mg_none_of KX G ?z; (case z => k_is)
      case b10 => refine' PySem.W.mg_none_of KX G ?z; (case z => k_is)
      case b11 => refine' PySem.W.mg_none_of KX G ?z; (case z => k_is)
      case b12 => refine' PySem.W.mg_none_of KX G ?z; (case z => k_is)
      case b13 => refine' PySem.W.mg_none_of KX G ?z; (case z => k_is)
      case c0 => refine' Cb.globi_mk KX G ?a; (case a => k_is)
      case c1 => refine' Cb.globi_mk KX G ?a; (case a => k_is)
      case c2 => refine' Cb.globi_mk KX G ?a; (case a => k_is)
      case c3 => refine' Cb.globt_mk KX G ?a ?l ?v ?z; (case a => k_is); (case l => k_is); (case v => repeat (first | exact .nil | refine .cons ⟨_, rfl⟩ ?_)); (case z => decide)
      case c4 => refine' Cb.globt_mk KX G ?a ?l ?v ?z; (case a => k_is); (case l => k_is); (case v => repeat (first | exact .nil | refine .cons ⟨_, rfl⟩ ?_)); (case z => decide)
      case c5 => refine' Cb.globi_mk KX G ?a; (case a => k_is)
#print axioms PySem.Challenge.cw_codeback_k61_patterns_told_holds

