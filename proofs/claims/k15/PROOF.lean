import PyProof.Rows.All
import Wide.All
import OpenK.AllK
import Wide.FinOn
import KE.KTreeB
import HandS.ForMost
import HandS.Star
import HandS.IsInst
import HandS.WideBits
import HandS.EndBits
import HandS.Style
import HandS.Flow
import KE.GoesEnum
import KE.GoesMore
import KE.BitLaws
import PyProof.ReprRoads
import HandS.Ends
import KE.KDictPairs
import HandS.Dict
import PyProof.EqAt
import PyProof.NeKinds
import HandS.Zip
import KE.GoesZip
import HandS.Lambda
import HandS.Wide
import HandS.TupAny
import HandS.Text
import HandS.StrMore
import HandS.Iter
import HandS.TupMul
import HandS.DictComp
import HandS.Conv
import HandS.FStr
import HandS.SetTxt0
import HandS.Set
import HandS.List
import HandS.TupSets
import HandS.Strs
import KE.KUnpackStar
import HandS.RaiseMore
import PyProof.EqKinds
import PyProof.TupleCall
import HandS.Base
import HandS.Call
import HandS.Exc
import KE.KExcInit
import KE.KExcIs
import HandS.ExcInit
import HandS.ExcIs
import HandS.ExcValue
import HandS.HotCalls
import HandS.ExcField
import HandS.EndTab
import HandS.SetFor
import HandS.WordsExc
import PyProof.StrBlock2
import HandS.TupLe
import HandS.Small
import KE.KDictDisplayH
import KE.KSetDisp
import HandS.SetIn
import HandS.Defaults
import HandS.MakeKwOnly
import HandS.HeadHook4
import HandS.Head2
import PySem.Challenge.RW_codeback_k15_what_code_is
set_option Elab.async false
set_option linter.all false
section
set_option maxRecDepth 100000
set_option maxHeartbeats 4000000
/-! Cb, part A: rules of our own over the hand layer: a call by a positional promise, enumerate of a tuple, heaps that only grow. -/
namespace Cb
open PySem PySem.Spec PyProof.Rows L2

/-! ### a def of the module by its name: what it promises -/
def Gives (P : Program) (w : World) (K : PySem.W.Frag) (mg : Str → Option Value) (base : Heap) (CX : CXT) (k : Nat) (x : Str) (sp : Sp) : Prop :=
  ∃ f, mg x = some (.ref f) ∧ PySem.W.keepIn K (.ref f) = true ∧ FnR P w K mg base CX k f sp
/-- the reading of such a call -/
def tOwn (sp : Sp) (E : XK) (t : TA) : TE := fun σ H Q => t σ H fun vs H1 => sp vs H1 Q E
section
variable {X : Cx} {CX : CXT} {k : Nat} {sp : Sp} {E : XK} {x : Str} {e : Expr} {es : List Expr} {t : TA} {p pos : Pos}
/-- x(e, ..), x a def of the module, by its positional promise -/
theorem pe_own (F : Gives X.prog X.w X.K X.mg X.base CX k x sp) (hr : Room k X.A) (hg : Gl X x) (hx : Passes CX X E) (ha : PA X (e :: es) t) (hdb : (x == ("__debug__" : Str)) = false := by decide)
    (he : starEach (e :: es) X.env = (false, eval e X.env) :: starEach es X.env := by rfl) (hpl : (backTo pos (starEach es X.env)).any (·.1) = false := by rfl) :
    PE X (.Call (.Name x p) (e :: es) [] pos) (tOwn sp E t) := by
  obtain ⟨f, hm, hk, F⟩ := F
  refine ⟨fun pins s σ H Q I h => ?_⟩
  refine wpAny_Call_Name_kw (ld_glob I hg hm ?_ hdb)
  refine PySem.W.callWith_K (h₀ := X.base) I.ok.mod.kin hk (thn (ha.run pos pins s σ H _ I h) fun us s1 ⟨vs, H1, I1, r, q⟩ => ⟨I1.kIn, ?_⟩) he hpl
  exact wpAny_call (run_fnR F hr hx I1 r q)
/-- x() -/
theorem pe_own0 (F : Gives X.prog X.w X.K X.mg X.base CX k x sp) (hr : Room k X.A) (hg : Gl X x) (hx : Passes CX X E) (hdb : (x == ("__debug__" : Str)) = false := by decide) :
    PE X (.Call (.Name x p) [] [] pos) (tOwn sp E tNil) := by
  obtain ⟨f, hm, hk, F⟩ := F
  refine ⟨fun pins s σ H Q I h => ?_⟩
  refine wpAny_Call_Name_kw (ld_glob I hg hm ?_ hdb)
  exact PySem.W.callWith_K0 I.kIn hk (wpAny_call (run_fnR F hr hx I .nil h))
end
theorem gives_of {P : Program} {w : World} {K : PySem.W.Frag} {mg : Str → Option Value} {base : Heap} {CX : CXT} {k : Nat} {x : Str} {sp : Sp} {f : Addr} {fd : FuncData} {ps : List Str} (hm : mg x = some (.ref f)) (hk : PySem.W.keepIn K (.ref f) = true) (F : FnOk P w K mg base CX k f fd ps sp) (b : Binds K fd ps []) :
    Gives P w K mg base CX k x sp := ⟨f, hm, hk, by
  intro A outer s H us vs Q E hr e0 r hsp
  have hl := F.len vs H Q E hsp
  have KX : K.In s.heap := e0.mod.kin.keeps fun b o e => (e0.bs b o e).1
  have hb := b s us KX (by rw [List.append_nil, ← r.length]; exact hl)
  rw [List.append_nil] at hb
  exact F.run A outer s H _ us vs Q E hr e0 hb r hsp⟩

/-! ### heaps that only grow -/
theorem same_upd {H : Hp} {p : Addr} {o : HO} (h : H p = none) : Same H (upd H p o) := fun b x e => by
  rw [upd_ne (ne_of_none e h)]
  exact e
theorem Same.upd {H H1 : Hp} {p : Addr} {o : HO} (s : Same H H1) (h : H1 p = none) : Same H (upd H1 p o) := s.trans (same_upd h)
/-- all but a stays -/
def SameBut (a : Addr) (H H' : Hp) : Prop := ∀ b o, b ≠ a → H b = some o → H' b = some o
theorem SameBut.refl (a : Addr) (H : Hp) : SameBut a H H := fun _ _ _ h => h
theorem SameBut.of {a : Addr} {H H' : Hp} (s : Same H H') : SameBut a H H' := fun b o _ h => s b o h
theorem SameBut.trans {a : Addr} {H H1 H2 : Hp} (s : SameBut a H H1) (t : SameBut a H1 H2) : SameBut a H H2 := fun b o n h => t b o n (s b o n h)
theorem SameBut.upd {a : Addr} {H H1 : Hp} {o : HO} (s : SameBut a H H1) : SameBut a H (upd H1 a o) := fun b x n h => by
  rw [upd_ne n]
  exact s b x n h
theorem SameBut.new {a : Addr} {H H1 : Hp} {p : Addr} {o : HO} (s : SameBut a H H1) (h : H1 p = none) : SameBut a H (L2.upd H1 p o) := s.trans (.of (same_upd h))
/-! ### enumerate(tuple) -/
set_option maxHeartbeats 1000000 in
theorem meets_enumerate_new1 {v : Value} {o : Obj} {H : Heap → Prop} (B : Begins v o H) :
    Meets (Builtin.«enumerate.__new__» ⟨[.type "enumerate", v], []⟩) (fun _ R s => H s.heap ∧
      R (.ok (.ret (.ref (s.heap.push o).objs.size))) { s with heap := (s.heap.push o).push { cls := .type "enumerate", data := .fields #[.none, .bool false, .ref s.heap.objs.size, rawInt 0, .none, .none] } }) :=
  .of_wp fun prog w A R s h => by
    obtain ⟨hp, g, d, tk, os⟩ := s; obtain ⟨h1, h⟩ := h
    have hsub := sub_enumerate
    have q1 : ∀ {A' : Around} {E : Value → Shared → Prop} {Q : Value → Shared → Prop}, Q (.ref hp.objs.size) ⟨hp.push o, g, d, tk, os⟩ → wpAny (model prog w) A' (pyIter v) Q E ⟨hp, g, d, tk, os⟩ :=
      fun q => B.iter prog w _ _ ⟨hp, g, d, tk, os⟩ _ h1 q
    wp_walk using q1
    refine wpAny_stack_any fun st => wpAny_pure ?_
    split
    · rename_i c _ _ _ _ _
      cases (c == Value.type "enumerate")
      · wp_walk using q1
        exact ⟨_, rfl, h⟩
      · wp_walk using q1
        exact ⟨_, rfl, h⟩
    · wp_walk using q1
      exact ⟨_, rfl, h⟩
section
variable {prog : Program} {w : World} {A : Around} {E : Value → Shared → Prop} {s : Shared}
theorem enum_begins1 {v : Value} {o : Obj} {H : Heap → Prop} {Q : Value → Shared → Prop} (B : Begins v o H) (h1 : H s.heap)
    (h : ∀ h', IsEnum h' (s.heap.objs.size + 1) s.heap.objs.size 0 .none → h'.get? s.heap.objs.size = some o → h'.objs.size = s.heap.objs.size + 2 →
      (∀ b o, s.heap.get? b = some o → h'.get? b = some o) → Q (.ref (s.heap.objs.size + 1)) { s with heap := h' }) :
    wpAny (model prog w) A (call (.type "enumerate") [v]) Q E s := by
  refine callType_new F.called_enumerate (by decide) (F.typeCall_enumerate_1 _) (F.newCall_enumerate_1 _) (fun obj => F.args_object_init_2 obj _) F.entry_enumerate_new
    (meets_enumerate_new1 B) ⟨h1, ?_⟩
  have hz : (s.heap.push o).objs.size = s.heap.objs.size + 1 := Heap.size_push ..
  show _ ∧ _
  rw [hz]
  have he : IsEnum ((s.heap.push o).push { cls := .type "enumerate", data := .fields #[.none, .bool false, .ref s.heap.objs.size, rawInt 0, .none, .none] }) (s.heap.objs.size + 1) s.heap.objs.size 0 .none := by
    have := Heap.get?_push_size (s.heap.push o) (o := { cls := .type "enumerate", data := .fields #[.none, .bool false, .ref s.heap.objs.size, rawInt 0, .none, .none] }) rfl
    rw [hz] at this; exact this
  refine ⟨⟨_, he, rfl⟩, h _ he (Heap.get?_push_of_some _ (Heap.get?_push_size _ B.free)) (by rw [Heap.size_push, hz]) fun b o x => Heap.get?_push_of_some _ (Heap.get?_push_of_some _ x)⟩
end
/-- the tuple at a, each item in a new pair -/
def IteT (K : PySem.W.Frag) (a : Addr) : It :=
  ⟨fun i H => ∃ (xs : List V) (x : V), SqT K H a xs ∧ xs[i]? = some x, fun i H v H' => ∃ T x, v = .ref T ∧ H T = none ∧ H' = upd H T (.tup [.int (i : Nat), x]) ∧ ∀ xs, SqT K H a xs → xs[i]? = some x, fun i H => ∃ xs : List V, SqT K H a xs ∧ xs.length = i⟩
theorem turn_enumT {P : Program} {w : World} {K : PySem.W.Frag} {elts : List Expr} {kk : Nat} {tpos : Pos} (a e it : Addr) :
    Turn P w K (.Tuple elts kk tpos) (IteT K a) [e, it] e (fun i h => (∃ old, IsEnum h e it ((i : Nat) : Int) old) ∧ h.IsTupleIter it a i ∧ e ≠ it ∧ a ≠ it ∧ a ≠ e) where
  mem := by simp
  obj := fun i h st b hb => by
    obtain ⟨⟨old, he⟩, ⟨o, ho, hc, hd⟩, _⟩ := st
    have e' : b = e ∨ b = it := by simpa using hb
    rcases e' with z | z
    · rw [z]; exact ⟨_, he, fun v q => nomatch q⟩
    · rw [z]; exact ⟨o, ho, fun v q => by rw [hd] at q; cases q⟩
  keep := fun i h h' st k => let ⟨⟨old, he⟩, hi, hne⟩ := st; ⟨⟨old, k e (by simp) _ he⟩, hi.at fun o q => k it (by simp) o q, hne⟩
  item := by
    intro X hP hw hK hc i pins s σ H E I hf st hg
    subst hP hw hK
    obtain ⟨⟨old, he⟩, hit, hne, hai, hae⟩ := st
    obtain ⟨xs, x, hq, hx⟩ := hg
    obtain ⟨its, rv, p, hz⟩ := I.tuple hq
    obtain ⟨u, hu, ru⟩ := rv.get hx
    have hel : e < s.heap.objs.size := Heap.lt_size he
    have hil : it < s.heap.objs.size := by obtain ⟨_, q, _⟩ := hit; exact Heap.lt_size q
    have hlt : i < its.toArray.size := by
      rw [List.size_toArray]
      exact (List.getElem?_eq_some_iff.mp hu).1
    refine wpAny_pyNext_enum_itemD (Draws.tuple (show X.A.in1.handled = none from I.ok.hd hc) it a hai its.toArray) he ⟨hit, show s.heap.IsTuple a its.toArray from p⟩ hlt hne (by simp; exact ⟨hne, Ne.symm hae⟩) fun v h' tk hv ho hst hT hsz hk => ?_
    have ev : v = u := by
      have e1 : its[i]? = some v := by simpa using hv
      rw [hu] at e1
      exact (Option.some.inj e1).symm
    subst ev
    refine ⟨_, rfl, wpAny_letOwnedTupleGo_enum (s := { s with heap := h', toks := tk + 1 }) ho fun h'' he' sb => ?_⟩
    have hT2 : h''.get? s.heap.objs.size = some { cls := .type "tuple", data := .seq #[.int i tk, v] } := (sb.2 _ (Nat.ne_of_gt hel)).trans hT
    have new : ObjOk X.prog X.w (upd H s.heap.objs.size (.tup [.int (i : Nat), x])) h'' s.heap.objs.size (.tup [.int (i : Nat), x]) :=
      ⟨by show 2 ≤ sizeLine; decide, [.int i tk, v], .cons ⟨_, rfl⟩ (.cons ru .nil), ⟨_, hT2, rfl, _, rfl⟩⟩
    have I1 : Inv X pins σ (upd H s.heap.objs.size (.tup [.int (i : Nat), x])) { s with heap := h'', toks := tk + 1 } :=
      I.turnedNew (ch := [e, it]) (fun b ob hb q => (sb.2 b (fun z => hb (by simp [z]))).trans (hk b ob (fun z => hb (by simp [z])) (fun z => hb (by simp [z])) q)) hf (Nat.le_refl _) new
    refine ⟨.ref s.heap.objs.size, _, I1, rfl, ⟨_, x, rfl, I.hok.fresh (Nat.le_refl _), rfl, fun ys hy => by rw [I.tuple_inj hy hq]; exact hx⟩, ⟨⟨v, ?_⟩, hst.1.at fun o q => (sb.2 it (Ne.symm hne)).trans q, hne, hai, hae⟩, fun b hb => ?_⟩
    · have e1 : ((i + 1 : Nat) : Int) = (i : Int) + 1 := by omega
      rw [e1]; exact he'
    · have hb' : b < s.heap.objs.size := by
        have e' : b = e ∨ b = it := by simpa using hb
        rcases e' with z | z
        · rw [z]; exact hel
        · rw [z]; exact hil
      rw [upd_ne (Nat.ne_of_lt hb')]
      exact (hf b hb).1
  done := by
    intro X hP hw hK hc i pins s σ H E I hf st hg
    subst hP hw hK
    obtain ⟨⟨old, he⟩, hit, hne, hai, hae⟩ := st
    obtain ⟨xs, hq, hx⟩ := hg
    obtain ⟨its, rv, p, hz⟩ := I.tuple hq
    obtain ⟨f0, f1, f2, f3, f4, f5⟩ := hf it (by simp)
    have hl := rv.length
    have ei : its.toArray.size = i := by
      rw [List.size_toArray]
      omega
    refine wpAny_pyNext_enum_endD (Draws.tuple (show X.A.in1.handled = none from I.ok.hd hc) it a hai its.toArray) he ⟨?_, show s.heap.IsTuple a its.toArray from p⟩ fun h' eb => ⟨rfl, I.turned (t' := s.toks) (fun b o hb q => eb b o hb q) f0 f1 f3 f4 f5⟩
    rw [ei]
    exact hit
  self := fun A i s Q E st h => let ⟨⟨_, he⟩, _⟩ := st; wpAny_pyIter_enum he h
def iEnumT (K : PySem.W.Frag) (ta : TA) : TI := fun σ H R => ta σ H fun vs H1 => ∃ a xs, vs = [.ref a] ∧ SqT K H1 a xs ∧ R (IteT K a) H1
theorem pi_enumT {X : Cx} {e : Expr} {ta : TA} {p pos tpos : Pos} {elts : List Expr} {kk : Nat} (hg : Gl X "enumerate") (hm : X.mg "enumerate" = none) (ha : PA X [e] ta) (hs : starEach [e] X.env = [(false, eval e X.env)] := by rfl) :
    PI X (.Tuple elts kk tpos) (.Call (.Name "enumerate" p) [e] [] pos) (iEnumT X.K ta) := by
  refine ⟨fun pins s σ H R I h => ?_⟩
  refine Call_ (ld_blt I hg hm boot_enumerate (PyProof.Rows.callWith_type1 (thn (ha.run pos pins s σ H _ I h) fun us s1 ⟨vs, H1, I1, r1, q1⟩ => ?_) hs rfl))
  obtain ⟨a, xs, ex, hq, q⟩ := q1
  subst ex
  cases r1 with
  | cons r rr =>
    cases rr
    cases r
    obtain ⟨its, rv, p', hz⟩ := I1.tuple hq
    have p2 : s1.heap.IsTuple a its.toArray := p'
    have hal : a < s1.heap.objs.size := by
      obtain ⟨o, ho, _⟩ := id p2
      exact Heap.lt_size ho
    refine enum_begins1 (begins_tuple a its.toArray) p2 fun h' he hit hsz hk => wpAny_pyIter_enum he ?_
    have I2 : Inv X pins σ H1 { s1 with heap := h' } := I1.kept (t' := s1.toks) hk
    refine ⟨s1.heap.objs.size + 1, [s1.heap.objs.size + 1, s1.heap.objs.size], _, _, H1, rfl, I2, turn_enumT a (s1.heap.objs.size + 1) s1.heap.objs.size, ⟨⟨.none, he⟩, ⟨_, hit, rfl, rfl⟩, Nat.succ_ne_self _, Nat.ne_of_lt hal, Nat.ne_of_lt (Nat.lt_succ_of_lt hal)⟩, fun b hb => ?_, q⟩
    have e' : b = s1.heap.objs.size + 1 ∨ b = s1.heap.objs.size := by simpa using hb
    have hle : s1.heap.objs.size ≤ b := by
      rcases e' with z | z
      · rw [z]; exact Nat.le_add_right _ _
      · rw [z]; exact Nat.le_refl _
    exact I1.fpOk hle (I1.hok.fresh hle)
end Cb

end

section
set_option maxRecDepth 100000
set_option maxHeartbeats 4000000
/-! Cb, part B: constants of the module, x in (written texts), powers of written numbers. -/
namespace Cb
open PySem PySem.Spec PyProof.Rows L2
theorem PE.imp {X : Cx} {e : Expr} {t t' : TE} (h : PE X e t) (hi : ∀ σ H Q, t' σ H Q → t σ H Q) : PE X e t' := ⟨fun pins s σ H Q I q => h.run pins s σ H Q I (hi σ H Q q)⟩
theorem PT.imp {X : Cx} {e : Expr} {t t' : TT} (h : PT X e t) (hi : ∀ σ H Q, t' σ H Q → t σ H Q) : PT X e t' := ⟨fun pins s σ H Q I q => h.run pins s σ H Q I (hi σ H Q q)⟩
/-- a constant of the module -/
def GlobV (mg : Str → Option Value) (x : Str) (v : V) : Prop := ∃ u, mg x = some u ∧ RelV v u
/-- a written tuple of the module -/
def GlobT (K : PySem.W.Frag) (mg : Str → Option Value) (x : Str) (xs : List V) : Prop := ∃ a, mg x = some (.ref a) ∧ ∀ H, SqT K H a xs
def tGT (K : PySem.W.Frag) (xs : List V) : TE := fun _ H Q => ∀ a, (∀ H', SqT K H' a xs) → Q (.ref a) H
section
variable {X : Cx} {x : Str} {pos p q : Pos}
theorem pe_gv {v : V} (hg : Gl X x) (h : GlobV X.mg x v) (hd : (x == ("__debug__" : Str)) = false := by decide) : PE X (.Name x pos) (tC v) := by
  obtain ⟨u, hm, r⟩ := h
  exact pe_glob hg hm r hd
theorem pe_gt {xs : List V} (hg : Gl X x) (h : GlobT X.K X.mg x xs) (hd : (x == ("__debug__" : Str)) = false := by decide) : PE X (.Name x pos) (tGT X.K xs) := by
  obtain ⟨a, hm, hs⟩ := h
  exact PE.imp (pe_glob (v := .ref a) hg hm rfl hd) fun σ H Q z => z a hs
/-- a ** b of written numbers -/
theorem pe_powc (c : Int) {a b : Int} {j k} (h : CPow a b) (e : a ^ b.toNat = c) : PE X (.BinOp (.Constant (.int a) j p) .Pow (.Constant (.int b) k q) pos) (tC (.int c)) :=
  PE.imp (pe_op op_pow pe_int pe_int) fun σ H Q z => by
    subst e
    exact ⟨_, _, rfl, rfl, h, z⟩
end
/-! ### answers by equations -/
theorem bl_cast {Q : VK} {H : Hp} {a b : Bool} (e : a = b) (q : Q (.bl b) H) : Q (.bl a) H := e ▸ q
theorem iteT' {A B : Prop} {b : Bool} (e : b = true) (h : A) : if b = true then A else B := by
  subst e
  exact iteT h
end Cb

end

section
set_option maxRecDepth 100000
set_option maxHeartbeats 4000000
/-! Cb, part C: a def of the text, its promise; the operations of the program as plain functions. -/
namespace Cb
open PySem PySem.Spec PyProof.Rows L2
/-- a def of the module stands there as the text says -/
def Stands (K : PySem.W.Frag) (mg : Str → Option Value) (x : Str) (st : Stmt) : Prop := ∃ f fd, mg x = some (.ref f) ∧ Fun K x x st f fd
theorem gives_fun {P : Program} {w : World} {K : PySem.W.Frag} {mg : Str → Option Value} {base : Heap} {k : Nat} {x : Str} {st : Stmt} {N ps : List Str} {sp : Sp} (T : Stands K mg x st) (S : FnScope N ps (defScope st))
    (hb : ∀ (kV doc pm : Value) (an : Option Addr) (cdv ct : Value) (us : List Value), us.length = ps.length → bindArgs (PySem.W.fnOf x x (defArgs st) (defBody st) (defScope st) .none kV doc pm an cdv ct) ⟨us, []⟩ = pure (ps.zip us))
    (len : ∀ vs H Q E, sp vs H Q E → vs.length = ps.length)
    (hbody : ∀ (f : Addr) (cdv : Value) (A : Around) (outer : List Env) (s : Shared) (H : Hp) (vs : List V) (Q : VK) (E : XK), Room k (A.deeper (envOfC x (defScope st) s.heap.objs.size f cdv)) → sp vs H Q E →
      ∃ t, PSs (cxOf CX0 P w K mg base N x (defScope st) f cdv A outer s H E).nox (defBody st) t ∧ t { nx := fun _ H' => Q .non H', rt := Q } (start N vs) H) :
    Gives P w K mg base CX0 (k + 1) x sp := by
  obtain ⟨f, fd, hm, F⟩ := T
  exact gives_of hm F.kp (F.ok S len (hbody f)) (F.binds hb)
theorem Gives.imp {P : Program} {w : World} {K : PySem.W.Frag} {mg : Str → Option Value} {base : Heap} {CX : CXT} {k : Nat} {x : Str} {sp sp' : Sp} (F : Gives P w K mg base CX k x sp) (h : ∀ vs H Q E, sp' vs H Q E → sp vs H Q E) : Gives P w K mg base CX k x sp' := by
  obtain ⟨f, hm, hk, F⟩ := F
  exact ⟨f, hm, hk, F.imp h⟩
/-! ### the operations -/
inductive Op where
  | add | sub | mul | div | rem | and | or | xor | shl | shr | lt | le | gt | ge | eq | ne | neg | not
  deriving DecidableEq
def Op.name : Op → Str
  | .add => "add" | .sub => "sub" | .mul => "mul" | .div => "div" | .rem => "rem" | .and => "and" | .or => "or" | .xor => "xor" | .shl => "shl" | .shr => "shr"
  | .lt => "lt" | .le => "le" | .gt => "gt" | .ge => "ge" | .eq => "eq" | .ne => "ne" | .neg => "neg" | .not => "not"
def Op.single : Op → Bool
  | .neg => true | .not => true | _ => false
def Wd (i : Int) : Prop := -2147483648 ≤ i ∧ i ≤ 2147483647
instance (i : Int) : Decidable (Wd i) := inferInstanceAs (Decidable (_ ∧ _))
def wrp (i : Int) : Int := (i - (-2147483648)) % 4294967296 + (-2147483648)
def ab (i : Int) : Int := if i < 0 then -i else i
def quo (i j : Int) : Int := if decide (i < 0) = decide (j < 0) then ab i / ab j else -(ab i / ab j)
def b2 (b : Bool) : Int := if b then 1 else 0
def cmpB : Op → Int → Int → Bool
  | .lt, a, b => decide (a < b) | .ge, a, b => !decide (a < b) | .le, a, b => decide (a ≤ b) | .gt, a, b => !decide (a ≤ b) | .eq, a, b => decide (a = b) | .ne, a, b => !decide (a = b)
  | _, _, _ => false
/-- the result of an operation, None where it traps -/
def res : Op → Int → Int → V
  | .add, a, b => .int (wrp (a + b)) | .sub, a, b => .int (wrp (a - b)) | .mul, a, b => .int (wrp (a * b))
  | .div, a, b => if b = 0 then .non else .int (wrp (quo a b)) | .rem, a, b => if b = 0 then .non else .int (wrp (a - b * quo a b))
  | .neg, a, _ => .int (wrp (-a)) | .not, a, _ => .int (wrp (-a - 1))
  | .and, a, b => .int (Builtin.bitAnd a b) | .or, a, b => .int (Builtin.bitOr a b) | .xor, a, b => .int (Builtin.bitXor a b)
  | .shl, a, b => .int (wrp (a * 2 ^ (b % 32).toNat)) | .shr, a, b => .int (a / 2 ^ (b % 32).toNat)
  | o, a, b => .int (b2 (cmpB o a b))
/-! ### their promises -/
end Cb

end

section
set_option maxHeartbeats 1000000
/-! Cb, part M: plain facts about words. -/
namespace Cb
open PySem PySem.Spec PyProof.Rows
/-! sums -/
/-! bits -/
end Cb

end

section
set_option maxRecDepth 100000
set_option maxHeartbeats 4000000
/-! Cb, part D: the laws' own draws: cell, pool, draw. -/
namespace Cb
open PySem PySem.Spec PyProof.Rows L2
/-- a pool stands at p -/
def PoolAt (H : Hp) (p : Addr) : Prop := ∃ s d n : Int, H p = some (.lst [.int s, .int d, .int n]) ∧ 0 ≤ s ∧ s < 2147483269 ∧ 0 ≤ d
def spCell (K : PySem.W.Frag) : Sp := fun vs H Q _ => ∃ (a : Addr) (ns : List Int) (k : Int), vs = [.ref a, .int k] ∧ SqL K H a (ns.map V.int) ∧ ns.length ≤ 63 ∧ 0 ≤ k ∧ k ≤ 1000 ∧ ∀ H' r, Same H H' → Q (.int r) H'
def spPool : Sp := fun vs H Q _ => ∃ i, vs = [.int i] ∧ ∀ H' p, Same H H' → H p = none → PoolAt H' p → Q (.ref p) H'
/-- a def that answers True, whatever its pool draws -/
def spRight : Sp := fun vs H Q _ => ∃ p, vs = [.ref p] ∧ PoolAt H p ∧ ∀ H', SameBut p H H' → PoolAt H' p → Q (.bl true) H'
def spLaw (K : PySem.W.Frag) : Sp := fun vs H Q _ => ∃ (a : Addr) (ns : List Int), vs = [.ref a] ∧ SqL K H a (ns.map V.int) ∧ ns.length ≤ 63 ∧ (∀ z ∈ ns, Builtin.Int.intBits z ≤ 1048576) ∧ ∀ H', Q (.bl true) H'
theorem divp_small {i j : Int} (h : 0 < j) (h2 : j < 2 ^ 200) : CDivP i j := by
  refine ⟨h, ?_⟩
  unfold Builtin.divisionGoesByPylong
  have h3 : j.natAbs.log2 < 200 := by
    have h4 : j.natAbs < 2 ^ 200 := by omega
    exact (Nat.log2_lt (by omega)).mpr h4
  have h5 : (j == 0) = false := by
    simp
    omega
  have h6 : ¬ (j.natAbs.log2 / 30 + 1 > 300) := by omega
  simp [h5]
  intro h7
  omega
theorem PoolAt.sq {K : PySem.W.Frag} {H : Hp} {p : Addr} (h : PoolAt H p) : ∃ xs, SqL K H p xs := by
  obtain ⟨s, d, n, e, _⟩ := h
  exact ⟨_, .inl (.inl e)⟩
theorem PoolAt.same {H H' : Hp} {p : Addr} (h : PoolAt H p) (s : Same H H') : PoolAt H' p := by
  obtain ⟨x, d, n, e, r⟩ := h
  exact ⟨x, d, n, s _ _ e, r⟩
theorem PoolAt.ne {H : Hp} {p q : Addr} (h : PoolAt H p) (e : H q = none) : p ≠ q := by
  obtain ⟨x, d, n, e2, r⟩ := h
  exact ne_of_none e2 e
theorem SameBut.at {a b : Addr} {H H' : Hp} {o : HO} (s : SameBut a H H') (h : H b = some o) (n : b ≠ a) : H' b = some o := s b o n h
/-- an item of a written list of ints at a drawn place -/
theorem at_ints {P : Int → Prop} (ns : List Int) (h : ∀ x ∈ ns, P x) {r : Int} (h0 : 0 ≤ r) (h1 : r < (ns.length : Int)) : ∃ v, atI (ns.map V.int) r = some (.int v) ∧ P v := by
  have hk : r.toNat < ns.length := by omega
  have er : r = ((r.toNat : Nat) : Int) := by omega
  have q : atI (ns.map V.int) ((r.toNat : Nat) : Int) = some (.int ns[r.toNat]) := atI_nat (by rw [List.getElem?_map, List.getElem?_eq_getElem hk] <;> rfl)
  rw [← er] at q
  exact ⟨_, q, h _ (List.getElem_mem hk)⟩
end Cb

end

section
set_option maxRecDepth 100000
set_option maxHeartbeats 4000000
/-! Cb, part E: what the top has left, by facts of the head. -/
namespace Cb
open PySem PySem.Spec PyProof.Rows L2
end Cb

end

section
set_option maxRecDepth 100000
set_option maxHeartbeats 4000000
/-! Cb, part G: repr: promises that hold where no repr is under way. -/
namespace Cb
open PySem PySem.Spec PyProof.Rows L2
/-- a positional promise, kept where no repr is under way -/
def FnG (P : Program) (w : World) (K : PySem.W.Frag) (mg : Str → Option Value) (base : Heap) (CX : CXT) (k : Nat) (f : Addr) (sp : Sp) : Prop :=
  ∀ (A : Around) (outer : List Env) (s : Shared) (H : Hp) (us : List Value) (vs : List V) (Q : VK) (E : XK), A.guards = some [] → Room k A → Env0 P w K mg base A outer s H → Vals vs us → sp vs H Q E →
    codeAny (model P w) A (.call (.ref f) ⟨us, []⟩) (CR CX outer P w H s Q E) s
def GivesG (P : Program) (w : World) (K : PySem.W.Frag) (mg : Str → Option Value) (base : Heap) (CX : CXT) (k : Nat) (x : Str) (sp : Sp) : Prop :=
  ∃ f, mg x = some (.ref f) ∧ PySem.W.keepIn K (.ref f) = true ∧ FnG P w K mg base CX k f sp
theorem Gives.g {P : Program} {w : World} {K : PySem.W.Frag} {mg : Str → Option Value} {base : Heap} {CX : CXT} {k : Nat} {x : Str} {sp : Sp} (F : Gives P w K mg base CX k x sp) : GivesG P w K mg base CX k x sp := by
  obtain ⟨f, hm, hk, F⟩ := F
  exact ⟨f, hm, hk, fun A outer s H us vs Q E _ hr e0 r h => F A outer s H us vs Q E hr e0 r h⟩
theorem GivesG.imp {P : Program} {w : World} {K : PySem.W.Frag} {mg : Str → Option Value} {base : Heap} {CX : CXT} {k : Nat} {x : Str} {sp sp' : Sp} (F : GivesG P w K mg base CX k x sp) (h : ∀ vs H Q E, sp' vs H Q E → sp vs H Q E) : GivesG P w K mg base CX k x sp' := by
  obtain ⟨f, hm, hk, F⟩ := F
  exact ⟨f, hm, hk, fun A outer s H us vs Q E hg hr e0 r z => F A outer s H us vs Q E hg hr e0 r (h _ _ _ _ z)⟩
section
variable {X : Cx} {CX : CXT} {k : Nat} {sp : Sp} {E : XK} {x : Str} {e : Expr} {es : List Expr} {t : TA} {p pos : Pos}
theorem run_fnG {pins : List (Addr × Obj)} {σ : L2.St} {H : Hp} {s : Shared} {f : Addr} {Q : VK} {us : List Value} {vs : List V} (F : FnG X.prog X.w X.K X.mg X.base CX k f sp) (hg : X.A.guards = some []) (hr : Room k X.A) (hx : Passes CX X E) (I : L2.Inv X pins σ H s) (r : Vals vs us) (h : sp vs H Q E) :
    codeAny (model X.prog X.w) X.A (.call (.ref f) ⟨us, []⟩) (fun r s' => match r with | .ok (.ret v) => EP X pins σ Q v s' | .ok _ => False | .error e => X.xe e s') s := by
  refine codeAny_mono (F X.A X.stack s H us vs Q E hg hr I.env0 r h) fun y s' hq => ?_
  match y, hq with
  | .error e, hq => exact hx pins σ H s e s' I hq
  | .ok (.ret u), hq => exact I.after hq
theorem pe_ownG (F : GivesG X.prog X.w X.K X.mg X.base CX k x sp) (hgd : X.A.guards = some []) (hr : Room k X.A) (hg : Gl X x) (hx : Passes CX X E) (ha : PA X (e :: es) t) (hdb : (x == ("__debug__" : Str)) = false := by decide)
    (he : starEach (e :: es) X.env = (false, eval e X.env) :: starEach es X.env := by rfl) (hpl : (backTo pos (starEach es X.env)).any (·.1) = false := by rfl) :
    PE X (.Call (.Name x p) (e :: es) [] pos) (tOwn sp E t) := by
  obtain ⟨f, hm, hk, F⟩ := F
  refine ⟨fun pins s σ H Q I h => ?_⟩
  refine wpAny_Call_Name_kw (ld_glob I hg hm ?_ hdb)
  exact PySem.W.callWith_K (h₀ := X.base) I.ok.mod.kin hk (thn (ha.run pos pins s σ H _ I h) fun us s1 ⟨vs, H1, I1, r, q⟩ => ⟨I1.kIn, wpAny_call (run_fnG F hgd hr hx I1 r q)⟩) he hpl
theorem pe_ownG0 (F : GivesG X.prog X.w X.K X.mg X.base CX k x sp) (hgd : X.A.guards = some []) (hr : Room k X.A) (hg : Gl X x) (hx : Passes CX X E) (hdb : (x == ("__debug__" : Str)) = false := by decide) :
    PE X (.Call (.Name x p) [] [] pos) (tOwn sp E tNil) := by
  obtain ⟨f, hm, hk, F⟩ := F
  refine ⟨fun pins s σ H Q I h => ?_⟩
  refine wpAny_Call_Name_kw (ld_glob I hg hm ?_ hdb)
  exact PySem.W.callWith_K0 I.kIn hk (wpAny_call (run_fnG F hgd hr hx I .nil h))
/-! ### repr -/
end
/-! ### calls by keywords -/
/-- the promise of a call whose last arguments are given by the names ks -/
def GivesK (P : Program) (w : World) (K : PySem.W.Frag) (mg : Str → Option Value) (base : Heap) (CX : CXT) (k : Nat) (x : Str) (ks : List Str) (sp : Sp) : Prop :=
  ∃ f, mg x = some (.ref f) ∧ PySem.W.keepIn K (.ref f) = true ∧ ∀ (A : Around) (outer : List Env) (s : Shared) (H : Hp) (us ws : List Value) (vs zs : List V) (Q : VK) (E : XK), Room k A → Env0 P w K mg base A outer s H → Vals vs us → Vals zs ws → ws.length = ks.length → sp (vs ++ zs) H Q E →
    codeAny (model P w) A (.call (.ref f) ⟨us, ks.zip ws⟩) (CR CX outer P w H s Q E) s
theorem givesK_of {P : Program} {w : World} {K : PySem.W.Frag} {mg : Str → Option Value} {base : Heap} {CX : CXT} {k : Nat} {x : Str} {sp : Sp} {f : Addr} {fd : FuncData} {ps ks : List Str} (hm : mg x = some (.ref f)) (hk : PySem.W.keepIn K (.ref f) = true) (F : FnOk P w K mg base CX k f fd ps sp)
    (b : ∀ us ws : List Value, ws.length = ks.length → us.length + ws.length = ps.length → bindArgs fd ⟨us, ks.zip ws⟩ = pure (ps.zip (us ++ ws))) : GivesK P w K mg base CX k x ks sp :=
  ⟨f, hm, hk, fun A outer s H us ws vs zs Q E hr e0 r rz hl hsp => by
    have hl2 := F.len _ H Q E hsp
    have r2 : Vals (vs ++ zs) (us ++ ws) := r.append rz
    exact F.run A outer s H _ (us ++ ws) (vs ++ zs) Q E hr e0 (.of_eq (b us ws hl (by rw [← List.length_append, ← r2.length]; exact hl2))) r2 hsp⟩
section
variable {X : Cx} {CX : CXT} {k : Nat} {sp : Sp} {E : XK} {x : Str} {e : Expr} {es : List Expr} {kws : List Keyword} {ks : List Str} {t tk : TA} {p pos : Pos}
theorem pe_ownK0 (F : GivesK X.prog X.w X.K X.mg X.base CX k x ks sp) (hr : Room k X.A) (hg : Gl X x) (hx : Passes CX X E) (hkw : PK X kws tk) (hlen : kws.length = ks.length := by rfl) (hall : (backToKw pos (keywordEach kws X.env)).all (·.1.isSome) = true := by rfl) (hks : (backToKw pos (keywordEach kws X.env)).filterMap (·.1) = ks := by rfl)
    (hdb : (x == ("__debug__" : Str)) = false := by decide) (hpl : ((backTo pos (starEach [] X.env)).any (·.1) || (backToKw pos (keywordEach kws X.env)).any (·.1.isNone)) = false := by rfl) (hw : (backToKw pos (keywordEach kws X.env)).length = ks.length := by rfl) :
    PE X (.Call (.Name x p) [] kws pos) (fun σ H Q => tk σ H fun zs H2 => zs.length = ks.length ∧ sp zs H2 Q E) := by
  obtain ⟨f, hm, hk, F⟩ := F
  refine ⟨fun pins s σ H Q I h => ?_⟩
  refine wpAny_Call_Name_kw (ld_glob I hg hm ?_ hdb)
  refine PySem.W.callWith_KW0 (h₀ := X.base) I.ok.mod.kin hk hall (thn (hkw.run pos pins s σ H _ I h) fun ws s2 ⟨zs, H2, I2, rz, hzl, q2⟩ => ?_) hpl
  refine ⟨I2.kIn, ?_⟩
  rw [hks]
  refine wpAny_call (codeAny_mono (F X.A X.stack s2 H2 [] ws [] zs Q E hr I2.env0 .nil rz (by rw [← rz.length]; exact hzl) q2) fun y s' hq => ?_)
  match y, hq with
  | .error e, hq => exact hx pins σ H2 s2 e s' I2 hq
  | .ok (.ret u), hq => exact I2.after hq
end
/-! ### a def by its body -/
theorem givesG_fun {P : Program} {w : World} {K : PySem.W.Frag} {mg : Str → Option Value} {base : Heap} {k : Nat} {x : Str} {st : Stmt} {N ps : List Str} {sp : Sp} (T : Stands K mg x st) (S : FnScope N ps (defScope st))
    (hb : ∀ (kV doc pm : Value) (an : Option Addr) (cdv ct : Value) (us : List Value), us.length = ps.length → bindArgs (PySem.W.fnOf x x (defArgs st) (defBody st) (defScope st) .none kV doc pm an cdv ct) ⟨us, []⟩ = pure (ps.zip us))
    (len : ∀ vs H Q E, sp vs H Q E → vs.length = ps.length)
    (hbody : ∀ (f : Addr) (cdv : Value) (A : Around) (outer : List Env) (s : Shared) (H : Hp) (vs : List V) (Q : VK) (E : XK), A.guards = some [] → Room k (A.deeper (envOfC x (defScope st) s.heap.objs.size f cdv)) → sp vs H Q E →
      ∃ t, PSs (cxOf CX0 P w K mg base N x (defScope st) f cdv A outer s H E).nox (defBody st) t ∧ t { nx := fun _ H' => Q .non H', rt := Q } (start N vs) H) :
    GivesG P w K mg base CX0 (k + 1) x sp := by
  obtain ⟨f, fd, hm, F⟩ := T
  have kp := F.kp
  obtain ⟨oc, od, kV, doc, pm, an, cdv, ct, osl, rfl, lk, hcd⟩ := F.ex
  refine ⟨f, hm, kp, fun A outer s H us vs Q E hg hr e0 r hsp => ?_⟩
  have hl := len vs H Q E hsp
  refine StX.run_bnd lk hcd S hr e0 (G := fun xs H2 => xs = vs ∧ H2 = H) (fun A' Ex Q' h => ?_) (fun s2 H2 xs he hr' => ?_)
  · rw [hb kV doc pm an cdv ct us (by rw [← r.length]; exact hl)]
    exact wpAny_pure (h s H vs us e0 Un.refl rfl (fun _ _ z => z) r hl ⟨rfl, rfl⟩)
  · obtain ⟨rfl, rfl⟩ := he
    obtain ⟨t, h, q⟩ := hbody f cdv A outer s2 H2 xs Q E hg hr' hsp
    exact ⟨t, h.nox, q⟩
end Cb

end

section
set_option maxRecDepth 100000
set_option maxHeartbeats 4000000
/-! Cb, part H: the end of a law whose promise holds where no repr is under way. -/
namespace Cb
open PySem PySem.Spec PyProof.Rows L2
/-- the heap in which the script alone is tracked (not at all, if it is the module's own) -/
def scriptHp (own : Bool) (a : Addr) (vs : List Value) (ns : List Int) : Hp := fun b => if own = false ∧ b = a then some (.frz { cls := .type "list", data := .seq vs.toArray } (.lst (ns.map V.int))) else none
theorem scriptHp_some {own : Bool} {a b : Addr} {vs : List Value} {ns : List Int} {u : HO} (h : scriptHp own a vs ns b = some u) : own = false ∧ b = a ∧ u = .frz { cls := .type "list", data := .seq vs.toArray } (.lst (ns.map V.int)) := by
  unfold scriptHp at h
  split at h
  · rename_i c
    exact ⟨c.1, c.2, (Option.some.inj h).symm⟩
  · cases h
section
variable {P : Program} {w : World} {K : PySem.W.Frag} {mg mb : Str → Option Value} {CX : CXT} {k : Nat} {fa a : Addr} {sp : Sp} {s₁ : Shared} {vs : List Value} {ns : List Int}
theorem law_callG (KX : K.In s₁.heap) (hns : s₁.heap.Ns mainGlobals mg) (hb : s₁.heap.Ns builtinsNs mb) (hbb : ∀ x : Str, x ≠ "__name__" → mb x = bootBuiltins x) (hlim : s₁.heap.NoLimit) (hg : s₁.gens = #[])
    (ha : s₁.heap.get? a = some { cls := .type "list", data := .seq vs.toArray }) (hi : IntsAre vs ns) (hl : ns.length ≤ sizeLine) (hr : Room k callerA)
    (F : ∀ base : Heap, K.In base → base.Ns mainGlobals mg → FnG P w K mg base CX k fa sp)
    (hsp : ∀ H : Hp, SqL K H a (ns.map V.int) → sp [.ref a] H (fun v _ => v = .bl true) fun _ _ _ => False)
    (hCX : ∀ H e s', CX [] H s₁ (fun _ _ _ => False) e s' → False) :
    codeAny (model P w) callerA (.call (.ref fa) ⟨[.ref a], []⟩) (fun r s' => r = .ok (.ret (.bool true)) ∧ OldK s₁.heap s'.heap ∧ s'.os = s₁.os ∧ AllBare s'.gens) s₁ := by
  have lenV := hi.length
  -- is the script one of the module's own objects?
  obtain ⟨own, hown⟩ : ∃ own : Bool, (own = true → ∃ o, K.lookup a = some o) ∧ (own = false → K.lookup a = none) := by
    cases hk : K.lookup a with
    | some o => exact ⟨true, fun _ => ⟨o, rfl⟩, fun z => by cases z⟩
    | none => exact ⟨false, (fun z => by cases z), fun _ => rfl⟩
  generalize eH : scriptHp own a vs ns = H
  have hH : ∀ b u, H b = some u → own = false ∧ b = a ∧ u = .frz { cls := .type "list", data := .seq vs.toArray } (.lst (ns.map V.int)) := fun b u z => scriptHp_some (by rw [eH]; exact z)
  have hS : SqL K H a (ns.map V.int) := by
    cases own with
    | false => exact .inl (.inr ⟨_, by rw [← eH]; exact if_pos ⟨rfl, rfl⟩⟩)
    | true =>
      obtain ⟨o, ho⟩ := hown.1 rfl
      have e := KX a o ho
      rw [ha] at e
      cases e
      exact .inr ⟨_, vs.toArray, _, ho, rfl, rfl, rfl, by rw [List.size_toArray, lenV]; exact hl, by simpa using vals_ints hi⟩
  have hok : HOk P w H s₁.heap := fun b u z => by
    obtain ⟨_, rfl, rfl⟩ := hH b u z
    exact ⟨ha, by rw [List.length_map]; exact hl, vs, _, vals_ints hi, ha⟩
  have stay : ∀ {b : Addr} {o : Obj}, s₁.heap.get? b = some o → (b = a → own = true) → (hidT s₁.heap H).get? b = some o := fun {b o} e n => hidT_get e (by
    cases q : H b with
    | none => rfl
    | some u =>
      obtain ⟨z1, z2, _⟩ := hH b u q
      rw [n z2] at z1
      cases z1)
  have nsK : ∀ {b : Addr} {m : Str → Option Value}, s₁.heap.Ns b m → (hidT s₁.heap H).Ns b m := fun {b m} ⟨o, es, ep, e, d, r⟩ => ⟨o, es, ep, hidT_get e (by
    cases q : H b with
    | none => rfl
    | some u =>
      obtain ⟨_, z2, _⟩ := hH b u q
      subst z2
      rw [ha] at e
      cases e
      cases d), d, r⟩
  have hKb : K.In (hidT s₁.heap H) := fun b o e => stay (KX b o e) (fun z => by
    cases own with
    | true => rfl
    | false =>
      rw [z, hown.2 rfl] at e
      cases e)
  have hM : Mod K mg (hidT s₁.heap H) := ⟨hKb, nsK hns, ⟨mb, nsK hb, hbb⟩, by
    obtain ⟨mc, h1, h2⟩ := hlim
    exact ⟨mc, nsK h1, h2⟩⟩
  have e0 : Env0 P w K mg (hidT s₁.heap H) callerA [] s₁ H := ⟨rfl, hM, fun b o e => of_hidT e, Nat.le_of_eq (hidT_size _ _), trivial, fun b hb => absurd (show b ∈ ([] : List Addr) from hb) (by simp), hok, .of_eq hg⟩
  refine codeAny_mono (F _ hKb (nsK hns) callerA [] s₁ H [.ref a] [.ref a] _ _ rfl hr e0 (.cons rfl .nil) (hsp H hS)) fun r s' h => ?_
  match r, h with
  | .error e, h => exact (hCX H e s' h).elim
  | .ok (.ret u), h =>
    obtain ⟨v, H', os, bare, un, hok', r', q⟩ := h
    have q' : v = .bl true := q
    subst q'
    obtain rfl : u = Value.bool true := r'
    refine ⟨rfl, OldK.of_keep fun b o e => ?_, os, bare⟩
    cases q : H b with
    | none => exact un.keep b o e q (by intro z; exact absurd (show b ∈ ([] : List Addr) from z) (by simp)) (by simp)
    | some u =>
      obtain ⟨_, z2, z3⟩ := hH b u q
      subst z3
      have z4 := hok' b _ (un.frzs b _ _ q)
      subst z2
      rw [ha] at e
      cases e
      exact z4.1
end
end Cb

end

section
set_option maxHeartbeats 1000000
/-! Cb, part N: shifts, quotients, comparisons of words. -/
namespace Cb
open PySem PySem.Spec PyProof.Rows
theorem p2 (s : Nat) : (0 : Int) < 2 ^ s := Int.pow_pos (by decide)
/-! quotients -/
/-! comparisons -/
end Cb

end

section
set_option maxRecDepth 100000
set_option maxHeartbeats 4000000
/-! Cb, part R: texts of flat lists; the law's own operations (k01). -/
namespace Cb
open PySem PySem.Spec PyProof.Rows L2
/-- the datum of a flat value -/
def dV : V → PyData
  | .bl b => .bool b
  | .int i => .int i
  | .str x => .str x
  | _ => .none
/-! ### the law's own operations -/
end Cb

end

section
set_option maxRecDepth 100000
set_option maxHeartbeats 4000000
/-! Cb, part P: patterns as data, and how they stand in a heap. -/
namespace Cb
open PySem PySem.Spec PyProof.Rows L2
inductive Pat where
  | word (i : Int) | unk (n : Nat) | un (o : Op) (p : Pat) | bin (o : Op) (p q : Pat)
def Op.quiet : Op → Bool
  | .div => false | .rem => false | .neg => false | .not => false | _ => true
/-- the pattern p stands at v -/
def PatAt (H : Hp) : V → Pat → Prop
  | v, .word i => ∃ a, v = .ref a ∧ H a = some (.tup [.str "word", .int i])
  | v, .unk n => ∃ a, v = .ref a ∧ H a = some (.tup [.str "unknown", .int (n : Int)])
  | v, .un o p => ∃ a x, v = .ref a ∧ H a = some (.tup [.str o.name, x]) ∧ PatAt H x p
  | v, .bin o p q => ∃ a x y, v = .ref a ∧ H a = some (.tup [.str o.name, x, y]) ∧ PatAt H x p ∧ PatAt H y q
/-- words are words, unknowns below m, operations with as many operands as they take, quiet -/
def Pat.ok (m : Nat) : Pat → Prop
  | .word i => Wd i
  | .unk n => n < m
  | .un o p => o.single = true ∧ p.ok m
  | .bin o p q => o.quiet = true ∧ p.ok m ∧ q.ok m
def Pat.depth : Pat → Nat
  | .word _ => 1
  | .unk _ => 1
  | .un _ p => p.depth + 1
  | .bin _ p q => max p.depth q.depth + 1
def asI : V → Int
  | .int i => i
  | _ => 0
def Pat.val (ns : List Int) : Pat → Int
  | .word i => i
  | .unk n => ns.getD n 0
  | .un o p => asI (res o (p.val ns) (p.val ns))
  | .bin o p q => asI (res o (p.val ns) (q.val ns))
theorem PatAt.same {H H' : Hp} (s : Same H H') : ∀ {p : Pat} {v : V}, PatAt H v p → PatAt H' v p
  | .word _, _, ⟨a, e, h⟩ => ⟨a, e, s _ _ h⟩
  | .unk _, _, ⟨a, e, h⟩ => ⟨a, e, s _ _ h⟩
  | .un _ _, _, ⟨a, x, e, h, hp⟩ => ⟨a, x, e, s _ _ h, PatAt.same s hp⟩
  | .bin _ _ _, _, ⟨a, x, y, e, h, hp, hq⟩ => ⟨a, x, y, e, s _ _ h, PatAt.same s hp, PatAt.same s hq⟩
/-! ### an operation and its parts -/
/-! ### promises -/
/-! ### the law's drawn patterns -/
end Cb

end

section
set_option maxRecDepth 100000
set_option maxHeartbeats 4000000
/-! Cb, part S (second): tuples that are known to have no dict of their own (frozen ones): made, cut, joined; dict(tuple of pairs). -/
namespace Cb
open PySem PySem.Spec PyProof.Rows L2
/-- a plain tuple of these items, its object known -/
def TupO (u : HO) (xs : List V) : Prop := ∃ o, u = .frz o (.tup xs) ∧ o.dict = none
theorem TupO.sq {K : PySem.W.Frag} {H : Hp} {a : Addr} {u : HO} {xs : List V} (h : TupO u xs) (e : H a = some u) : SqT K H a xs := by
  obtain ⟨o, rfl, _⟩ := h
  exact .inl (.inr ⟨o, e⟩)
theorem TupO.inj {u : HO} {xs ys : List V} (h : TupO u xs) (h2 : TupO u ys) : xs = ys := by
  obtain ⟨o, rfl, _⟩ := h
  obtain ⟨o2, e, _⟩ := h2
  cases e
  rfl
section
variable {X : Cx} {pins : List (Addr × Obj)} {σ : L2.St} {H : Hp} {s : Shared}
/-- a new one is laid -/
theorem laidF {h' : Heap} {its : List Value} {xs : List V} (I : L2.Inv X pins σ H { s with heap := h' }) (r : Vals xs its) (z : xs.length ≤ sizeLine) {Q : VK}
    (q : ∀ p u, TupO u xs → H p = none → Q (.ref p) (upd H p u)) : EP X pins σ Q (.ref h'.objs.size) { s with heap := h'.push { cls := .type "tuple", data := .seq its.toArray } } := by
  refine ⟨.ref h'.objs.size, upd H h'.objs.size (.frz { cls := .type "tuple", data := .seq its.toArray } (.tup xs)), I.laid (t' := s.toks) (fun b o e => Heap.get?_push_of_some _ e) (Nat.le_refl _) ?_, rfl, q _ _ ⟨_, rfl, rfl⟩ (I.hok.fresh (Nat.le_refl _))⟩
  exact ⟨Heap.get?_push_size _ rfl, z, its, r, IsTup.new _ _⟩
end
def tTupF (t : TA) : TE := fun σ H Q => t σ H fun xs H1 => xs.length ≤ sizeLine ∧ ∀ p u, TupO u xs → H1 p = none → Q (.ref p) (upd H1 p u)
theorem pe_tupF {X : Cx} {es : List Expr} {t : TA} {x1} {pos : Pos} (h : PA X es t) : PE X (.Tuple es x1 pos) (tTupF t) := by
  refine ⟨fun pins s σ H Q I hq => ?_⟩
  refine wpAny_Tuple_spliced (thn (h.run pos pins s σ H _ I hq) fun us s1 ⟨xs, H1, I1, r, z, q⟩ => ⟨by rw [← r.length]; exact z, ?_⟩)
  exact laidF (s := s1) I1 r z q
theorem call_tuple_ofF {X : Cx} : CallR X (.type "tuple") (fun xs H Q => ∃ p ys, xs = [.ref p] ∧ ((SqL X.K H p ys ∧ ∀ l u, TupO u ys → H l = none → Q (.ref l) (upd H l u)) ∨ (SqT X.K H p ys ∧ Q (.ref p) H))) := by
  intro pins s σ H xs us Q I r h
  obtain ⟨p, ys, rfl, h⟩ := h
  obtain ⟨u, rfl, rx⟩ := vals1 r
  cases rx
  rcases h with ⟨hq, q⟩ | ⟨hq, q⟩
  · obtain ⟨its, r', pl, hz⟩ := I.list hq
    have hlen := r'.length
    refine call_tuple_list pl.isList (fun h' kp => ?_) (by simp only [List.size_toArray] <;> omega)
    have I1 : Inv X pins σ H { s with heap := h' } := I.kept (t' := s.toks) kp
    exact laidF (s := s) I1 r' hz q
  · obtain ⟨its, r', pl, hz⟩ := I.tuple hq
    exact call_tuple_same pl ⟨.ref p, H, I, rfl, q⟩
def rSlTF (K : PySem.W.Frag) := fun (x : V) (lo hi : Option Int) (H : Hp) (Q : VK) => ∃ a xs, x = .ref a ∧ SqT K H a xs ∧ ¬(HT.sIx xs.length 0 lo = 0 ∧ HT.sIx xs.length xs.length hi = xs.length) ∧ ∀ p u, TupO u (cutV xs lo hi) → H p = none → Q (.ref p) (upd H p u)
theorem sl_tupF {X : Cx} : SlR X (rSlTF X.K) := by
  intro pins s σ H x v vl vu lo hi sl Q I rx hs pl pu h
  obtain ⟨a, xs, rfl, hx, hw, q⟩ := h
  cases rx
  obtain ⟨its, r, ht, hz⟩ := I.tuple hx
  have hlen : its.toArray.size = xs.length := by rw [List.size_toArray]; exact r.length.symm
  refine ⟨"tuple", _, PyProof.Rows.slot_tuple_getitem.lookup, ht.typeIs, ?_⟩
  refine HT.getItem_tuple_cut ht hs pl pu (by rw [hlen]; exact hw) ?_ (by rw [hlen]; exact hz)
  rw [hlen]
  exact laidF (s := s) (xs := cutV xs lo hi) I ((r.drop (HT.sIx xs.length 0 lo)).take (HT.sIx xs.length xs.length hi - HT.sIx xs.length 0 lo)) (Nat.le_trans (cutV_length xs lo hi) hz) q
def rCatTF (K : PySem.W.Frag) : R2 := fun x y H Q => ∃ a b xs ys, x = .ref a ∧ y = .ref b ∧ SqT K H a xs ∧ SqT K H b ys ∧ xs ≠ [] ∧ xs.length + ys.length ≤ sizeLine ∧
  (ys = [] → Q (.ref a) H) ∧ (ys ≠ [] → ∀ p u, TupO u (xs ++ ys) → H p = none → Q (.ref p) (upd H p u))
theorem op_catTF {X : Cx} : OpR X (binaryOp .Add) (rCatTF X.K) := by
  intro pins s σ H x y v u Q I rx ry h
  obtain ⟨a, b, xs, ys, rfl, rfl, ha, hb, hx, hz, q1, q2⟩ := h
  cases rx
  cases ry
  obtain ⟨its, r1, p1, _⟩ := I.tuple ha
  obtain ⟨its2, r2, p2, _⟩ := I.tuple hb
  refine HT.cat_tup p1 p2 (fun z => hx (r1.nil_iff.mp z)) (fun z => ⟨.ref a, H, I, rfl, q1 (r2.nil_iff.mp z)⟩) (fun z => ?_) (by rw [← r1.length, ← r2.length]; exact hz)
  exact laidF (s := s) (xs := xs ++ ys) I (r1.append r2) (by rw [List.length_append]; exact hz) (q2 (fun w => z (r2.nil_iff.mpr w)))
/-! ### dict(t) of a tuple of pairs -/
end Cb

end

section
set_option maxRecDepth 100000
set_option maxHeartbeats 4000000
/-! Cb, part T (second): data of any kind (None, truths, numbers, texts, tuples, lists, small dicts), lists of any length, and their texts; the part of a heap that stays. -/
namespace Cb
open PySem PySem.Spec PyProof.Rows L2
/-- a key as a datum -/
def keyD' : Key → PyData
  | .inl i => .int i
  | .inr x => .str x
/-- a dict's pairs as data -/
def zipKD (kvs : List (Key × V)) (ds : List PyData) : List (PyData × PyData) := (kvs.map fun p => keyD' p.1).zip ds
mutual
/-- the datum d stands at v -/
inductive DA (H : Hp) : V → PyData → Prop
  | non : DA H .non .none
  | bl (b : Bool) : DA H (.bl b) (.bool b)
  | int (i : Int) : DA H (.int i) (.int i)
  | str (x : Str) : DA H (.str x) (.str x)
  | lst {a : Addr} {xs : List V} {ds : List PyData} : H a = some (.lst xs) → DAll H xs ds → DA H (.ref a) (.list ds)
  | tup {a : Addr} {u : HO} {xs : List V} {ds : List PyData} : H a = some u → TupO u xs → DAll H xs ds → DA H (.ref a) (.tuple ds)
  | dk {a : Addr} {kvs : List (Key × V)} {ds : List PyData} : H a = some (.dK kvs) → DAll H (kvs.map (·.2)) ds → DA H (.ref a) (.dict (zipKD kvs ds))
inductive DAll (H : Hp) : List V → List PyData → Prop
  | nil : DAll H [] []
  | cons {v : V} {vs : List V} {d : PyData} {ds : List PyData} : DA H v d → DAll H vs ds → DAll H (v :: vs) (d :: ds)
end
theorem DA.dct {H : Hp} {a : Addr} (h : H a = some (.dK [])) : DA H (.ref a) (.dict []) := .dk h .nil
mutual
theorem DA.stay {H H' : Hp} (s : ∀ a o, H a = some o → (∀ ps, o ≠ .tbl ps) → H' a = some o) : ∀ {v : V} {d : PyData}, DA H v d → DA H' v d
  | _, _, .non => .non
  | _, _, .bl b => .bl b
  | _, _, .int i => .int i
  | _, _, .str x => .str x
  | _, _, .lst ha hd => .lst (s _ _ ha (fun _ e => nomatch e)) (DAll.stay s hd)
  | _, _, .tup ha ht hd => .tup (s _ _ ha (fun _ e => by
      obtain ⟨o, rfl, _⟩ := ht
      cases e)) ht (DAll.stay s hd)
  | _, _, .dk ha hd => .dk (s _ _ ha (fun _ e => nomatch e)) (DAll.stay s hd)
theorem DAll.stay {H H' : Hp} (s : ∀ a o, H a = some o → (∀ ps, o ≠ .tbl ps) → H' a = some o) : ∀ {vs : List V} {ds : List PyData}, DAll H vs ds → DAll H' vs ds
  | _, _, .nil => .nil
  | _, _, .cons h1 h2 => .cons (DA.stay s h1) (DAll.stay s h2)
end
theorem DA.same {H H' : Hp} {v : V} {d : PyData} (h : DA H v d) (s : Same H H') : DA H' v d := DA.stay (fun a o e _ => s a o e) h
theorem DAll.same {H H' : Hp} {v : List V} {d : List PyData} (h : DAll H v d) (s : Same H H') : DAll H' v d := DAll.stay (fun a o e _ => s a o e) h
/-! ### the part of a heap that stays: without the lists at M -/
/-- what may be hidden: lists, dicts -/
def isTbl : HO → Bool
  | .tbl _ => true | _ => false
def hidable : HO → Bool
  | .lst _ => true | .dK _ => true | _ => false
/-- a heap without the tables of code objects -/
def noT (H : Hp) : Hp := fun b => match H b with
  | some o => if isTbl o = true then none else some o
  | none => none
theorem noT_of {H : Hp} {b : Addr} {o : HO} (h : H b = some o) (n : isTbl o = false) : noT H b = some o := by
  unfold noT
  rw [h]
  exact if_neg (by rw [n]; exact fun z => nomatch z)
theorem noT_at {H : Hp} {b : Addr} {o : HO} (h : noT H b = some o) : H b = some o ∧ isTbl o = false := by
  unfold noT at h
  split at h
  · rename_i u e
    split at h
    · cases h
    · rename_i n
      cases h
      exact ⟨e, Bool.eq_false_iff.mpr n⟩
  · cases h
theorem noT_none {H : Hp} {b : Addr} (h : H b = none) : noT H b = none := by
  unfold noT
  rw [h]
theorem noT_none' {H : Hp} {b : Addr} (h : noT H b = none) {o : HO} (e : H b = some o) (n : isTbl o = false) : False := by
  rw [noT_of e n] at h
  cases h
theorem noT_ne {H : Hp} {b l : Addr} {u : HO} (n : b ≠ l) : noT (upd H l u) b = noT H b := by
  unfold noT
  rw [upd_ne n]
/-- all but the tables stays -/
abbrev SameN (H H' : Hp) : Prop := ∀ b o, H b = some o → isTbl o = false → H' b = some o
theorem noT_sameN {H H' : Hp} (s : SameN H H') : Same (noT H) (noT H') := fun b o h => noT_of (s b o (noT_at h).1 (noT_at h).2) (noT_at h).2
def Hid (M : List Addr) (H : Hp) : Hp := fun b => match noT H b with
  | some o => if hidable o = true ∧ b ∈ M then none else some o
  | none => none
theorem hid_ofT {M : List Addr} {H : Hp} {b : Addr} {o : HO} (h : noT H b = some o) (n : hidable o = true → b ∉ M) : Hid M H b = some o := by
  unfold Hid
  rw [h]
  exact if_neg fun z => n z.1 z.2
theorem hid_of {M : List Addr} {H : Hp} {b : Addr} {o : HO} (h : H b = some o) (n : hidable o = true → b ∉ M) (t : isTbl o = false := by rfl) : Hid M H b = some o := hid_ofT (noT_of h t) n
theorem hid_atT {M : List Addr} {H : Hp} {b : Addr} {o : HO} (h : Hid M H b = some o) : noT H b = some o ∧ (hidable o = true → b ∉ M) := by
  unfold Hid at h
  split at h
  · rename_i u e
    split at h
    · cases h
    · rename_i n
      cases h
      exact ⟨e, fun z m => n ⟨z, m⟩⟩
  · cases h
theorem hid_at {M : List Addr} {H : Hp} {b : Addr} {o : HO} (h : Hid M H b = some o) : H b = some o ∧ (hidable o = true → b ∉ M) := ⟨(noT_at (hid_atT h).1).1, (hid_atT h).2⟩
theorem hid_sub {M : List Addr} {H : Hp} : Same (Hid M H) H := fun b o h => (hid_at h).1
theorem hid_tup {M : List Addr} {H : Hp} {a : Addr} {u : HO} {xs : List V} (h : H a = some u) (t : TupO u xs) : Hid M H a = some u := by
  obtain ⟨o, rfl, _⟩ := t
  exact hid_of h (fun e => nomatch e)
theorem hid_dK {M : List Addr} {H : Hp} {a : Addr} {xs} (h : H a = some (.dK xs)) (n : a ∉ M) : Hid M H a = some (.dK xs) := hid_of h (fun _ => n)
theorem hid_lst {M : List Addr} {H : Hp} {a : Addr} {xs : List V} (h : H a = some (.lst xs)) (n : a ∉ M) : Hid M H a = some (.lst xs) := hid_of h (fun _ => n)
theorem hid_sameN {M : List Addr} {H H' : Hp} (s : SameN H H') : Same (Hid M H) (Hid M H') := fun b o h => by
  obtain ⟨h1, h2⟩ := hid_atT h
  exact hid_ofT (noT_sameN s b o h1) h2
theorem hid_same {M : List Addr} {H H' : Hp} (s : Same H H') : Same (Hid M H) (Hid M H') := hid_sameN fun b o h _ => s b o h
theorem hid_new {M : List Addr} {H : Hp} {p : Addr} {u : HO} (n : H p = none) : Same (Hid M H) (Hid M (upd H p u)) := hid_same (same_upd n)
theorem hid_updH {M : List Addr} {H : Hp} {l : Addr} {o u : HO} (m : l ∈ M) (hl : H l = some o) (ho : hidable o = true) : Same (Hid M H) (Hid M (upd H l u)) := fun b o2 h => by
  obtain ⟨h1, h2⟩ := hid_atT h
  refine hid_ofT ?_ h2
  have n : b ≠ l := fun z => by
    subst z
    have h1 := (noT_at h1).1
    rw [hl] at h1
    cases h1
    exact h2 ho m
  rw [noT_ne n]
  exact h1
theorem hid_upd {M : List Addr} {H : Hp} {l : Addr} {ys : List V} {u : HO} (m : l ∈ M) (hl : H l = some (.lst ys)) : Same (Hid M H) (Hid M (upd H l u)) := hid_updH m hl rfl
theorem hid_less {M M' : List Addr} {H : Hp} (m : ∀ x ∈ M, x ∈ M') : Same (Hid M' H) (Hid M H) := fun b o h => by
  obtain ⟨h1, h2⟩ := hid_atT h
  exact hid_ofT h1 fun e hm => h2 e (m _ hm)
theorem DAll.length {H : Hp} : ∀ {vs : List V} {ds : List PyData}, DAll H vs ds → vs.length = ds.length
  | _, _, .nil => rfl
  | _, _, .cons _ t => congrArg (· + 1) t.length
theorem zipKD_fst {kvs : List (Key × V)} {ds : List PyData} (h : (kvs.map (·.2)).length = ds.length) : (zipKD kvs ds).map (·.1) = (kvs.map (·.1)).map keyD' ∧ (zipKD kvs ds).map (·.2) = ds := by
  rw [List.length_map] at h
  unfold zipKD
  refine ⟨?_, List.map_snd_zip (by rw [List.length_map]; omega)⟩
  rw [List.map_fst_zip (by rw [List.length_map]; omega), List.map_map]
  rfl
theorem dict_parts {P : Program} {w : World} : ∀ {kvs : List (Key × V)} {vs : List (Key × Value)} {l : List DictEntry}, KV kvs vs → Pairs (mixKind P w) l vs → Paired (fun k u => keyIs k u = true) (kvs.map (·.1)) (l.map (·.key)) ∧ Vals (kvs.map (·.2)) (l.map (·.val))
  | _, _, _, .nil, .nil => ⟨.nil, .nil⟩
  | _, _, _, .cons h t, .cons p q r => by
    obtain ⟨h1, h2⟩ := dict_parts t r
    refine ⟨.cons ?_ h1, .cons ?_ h2⟩
    · dsimp only
      rw [h.1]
      exact p
    · dsimp only
      rw [q]
      exact h.2
theorem keys_read {h : Heap} : ∀ {ks : List Key} {us : List Value}, Paired (fun k u => keyIs k u = true) ks us → ∃ as, ReadsAll h us (ks.map keyD') as
  | _, _, .nil => ⟨_, .nil⟩
  | _, _, .cons (a := k) r t => by
    obtain ⟨as, q⟩ := keys_read t
    rcases keyIs_shape r with ⟨i, u, rfl, rfl⟩ | ⟨x, u, rfl, rfl⟩
    · exact ⟨_, .cons (.int i u) q⟩
    · exact ⟨_, .cons (.str x u) q⟩
/-! ### reading -/
section
variable {X : Cx} {pins : List (Addr × Obj)} {σ : L2.St} {H : Hp} {s : Shared}
mutual
theorem DA.reads (I : L2.Inv X pins σ H s) : ∀ {v : V} {d : PyData} {u : Value}, DA H v d → RelV v u → ∃ as, Reads s.heap u d as
  | _, _, _, .non, r => by
    cases r
    exact ⟨_, Reads.none⟩
  | _, _, _, .bl b, r => by
    cases r
    exact ⟨_, Reads.bool b⟩
  | _, _, _, .int i, r => by
    obtain ⟨t, rfl⟩ := r
    exact ⟨_, Reads.int i t⟩
  | _, _, _, .str x, r => by
    obtain ⟨t, rfl⟩ := r
    exact ⟨_, Reads.str x t⟩
  | _, _, _, .lst hs ha, r => by
    cases r
    obtain ⟨its, rv, ⟨o, n, ho, hc, _, hd⟩, _⟩ := I.list (.inl (.inl hs))
    obtain ⟨as, hr⟩ := DAll.reads I ha rv
    exact ⟨_, Reads.list ho hc hd hr⟩
  | _, _, _, .tup hs ht ha, r => by
    cases r
    obtain ⟨its, rv, ⟨o, ho, hc, n, hd⟩, _⟩ := I.tuple (ht.sq hs)
    obtain ⟨as, hr⟩ := DAll.reads I ha rv
    exact ⟨_, Reads.tuple ho hc hd hr⟩
  | _, _, _, .dk (a := a) (kvs := kvs) ha hd, r => by
    cases r
    obtain ⟨_, hsm, vs, hkv, o, es, ep, h1, h2, h3, _, h4, _⟩ := (show ObjOk X.prog X.w H s.heap a (.dK kvs) from I.hok a _ ha)
    obtain ⟨hk, hv⟩ := dict_parts hkv h4
    obtain ⟨as, hr⟩ := DAll.reads I hd hv
    obtain ⟨bs, hb⟩ := keys_read (h := s.heap) hk
    have hz := zipKD_fst hd.length
    refine ⟨_, Reads.dict (kvs := zipKD kvs _) h1 h2.1 h3 (by rw [hz.1]; exact hb) (by rw [hz.2]; exact hr)⟩
theorem DAll.reads (I : L2.Inv X pins σ H s) : ∀ {vs : List V} {ds : List PyData} {us : List Value}, DAll H vs ds → Vals vs us → ∃ as, ReadsAll s.heap us ds as
  | _, _, _, .nil, r => by
    cases r
    exact ⟨_, ReadsAll.nil⟩
  | _, _, _, .cons h1 h2, r => by
    cases r with
    | cons r1 r2 =>
      obtain ⟨as, q1⟩ := DA.reads I h1 r1
      obtain ⟨bs, q2⟩ := DAll.reads I h2 r2
      exact ⟨_, ReadsAll.cons q1 q2⟩
end
/-! ### how a datum is shown: whatever lists stand in it -/
def Shw (P : Program) (w : World) (h : Heap) (u : Value) (d : PyData) : Prop := ∃ bs, ReadAtMost h d.depth bs ∧ ReprK P w bs h d.depth u d.shown
def ShwAll (P : Program) (w : World) (h : Heap) (us : List Value) (ds : List PyData) : Prop := ∃ bs, ReadAtMost h (PyData.depthAll ds) bs ∧ ReprAllK P w bs h (PyData.depthAll ds) us (PyData.shownAll ds)
theorem shw_plain {P : Program} {w : World} {h : Heap} {u : Value} {d : PyData} {as : List Addr} (r : Reads h u d as) (n : d.hasDict = false) (hs : d.showable = true) (hz : d.shown.length ≤ sizeLine) : Shw P w h u d := ReprK.of_reads r hs (PyData.noDict_hsm n) hz
theorem shwAll_cons {P : Program} {w : World} {h : Heap} {u : Value} {us : List Value} {d : PyData} {ds : List PyData} (h1 : Shw P w h u d) (h2 : ShwAll P w h us ds) : ShwAll P w h (u :: us) (d :: ds) := by
  obtain ⟨b1, r1, k1⟩ := h1
  obtain ⟨b2, r2, k2⟩ := h2
  have m1 : d.depth ≤ PyData.depthAll (d :: ds) := by
    show d.depth ≤ max d.depth (PyData.depthAll ds)
    omega
  have m2 : PyData.depthAll ds ≤ PyData.depthAll (d :: ds) := by
    show PyData.depthAll ds ≤ max d.depth (PyData.depthAll ds)
    omega
  refine ⟨b1 ++ b2, (r1.mono m1).append (r2.mono m2), ?_⟩
  exact .cons ((k1.more fun b m => List.mem_append.mpr (.inl m)).level_le m1) (k2.more_le (fun b m => List.mem_append.mpr (.inr m)) m2)
theorem shwAll_keys {P : Program} {w : World} {h : Heap} : ∀ {ks : List Key} {us : List Value}, Paired (fun k u => keyIs k u = true) ks us → (∀ t ∈ PyData.shownAll (ks.map keyD'), t.length ≤ sizeLine) → PyData.showableAll (ks.map keyD') = true → ShwAll P w h us (ks.map keyD')
  | _, _, .nil, _, _ => ⟨[], (fun _ z => nomatch z), .nil⟩
  | _, _, .cons (a := k) r t, hz, hs => by
    have hs2 := Bool.and_eq_true_iff.mp hs
    refine shwAll_cons ?_ (shwAll_keys t (fun x m => hz x (List.mem_cons_of_mem _ m)) hs2.2)
    have hz1 := hz _ List.mem_cons_self
    rcases keyIs_shape r with ⟨i, u, rfl, rfl⟩ | ⟨x, u, rfl, rfl⟩
    · exact shw_plain (Reads.int i u) rfl hs2.1 hz1
    · exact shw_plain (Reads.str x u) rfl hs2.1 hz1
mutual
theorem DA.shw (I : L2.Inv X pins σ H s) : ∀ {v : V} {d : PyData} {u : Value}, DA H v d → RelV v u → d.showable = true → d.shown.length ≤ sizeLine → Shw X.prog X.w s.heap u d
  | _, _, _, .non, r, hs, hz => by
    cases r
    exact shw_plain Reads.none rfl hs hz
  | _, _, _, .bl b, r, hs, hz => by
    cases r
    exact shw_plain (Reads.bool b) rfl hs hz
  | _, _, _, .int i, r, hs, hz => by
    obtain ⟨t, rfl⟩ := r
    exact shw_plain (Reads.int i t) rfl hs hz
  | _, _, _, .str x, r, hs, hz => by
    obtain ⟨t, rfl⟩ := r
    exact shw_plain (Reads.str x t) rfl hs hz
  | _, _, _, .lst (ds := ds) hl ha, r, hs, hz => by
    cases r
    obtain ⟨its, rv, ⟨o, n, ho, hc, _, hd⟩, _⟩ := I.list (.inl (.inl hl))
    obtain ⟨as, hr⟩ := DAll.reads I ha rv
    obtain ⟨bs, b1, k1⟩ := DAll.shw I ha rv hs (fun t m => Nat.le_trans (listText_mem_le m) hz)
    have rd := Reads.list ho hc hd hr
    have hn := not_mem_of_deeper rd (Nat.lt_succ_self _) b1
    refine ⟨_ :: bs, ReadAtMost.cons rd (Nat.le_succ _) b1, ?_⟩
    cases its with
    | nil =>
      cases rv
      cases ha
      exact ReprK.listEmpty ho hc hd
    | cons y l => exact ReprK.list ho hc hd hn (by rw [k1.length_eq]; rfl) (fun i z e => k1.item i z (by simpa using e))
  | _, _, _, .tup (ds := ds) hl ht ha, r, hs, hz => by
    cases r
    obtain ⟨its, rv, ⟨o, ho, hc, n, hd⟩, _⟩ := I.tuple (ht.sq hl)
    obtain ⟨as, hr⟩ := DAll.reads I ha rv
    obtain ⟨bs, b1, k1⟩ := DAll.shw I ha rv hs (fun t m => Nat.le_trans (tupleText_mem_le m) hz)
    have rd := Reads.tuple ho hc hd hr
    have hn := not_mem_of_deeper rd (Nat.lt_succ_self _) b1
    exact ⟨_ :: bs, ReadAtMost.cons rd (Nat.le_succ _) b1, ReprK.tuple ho hc hd hn k1⟩
  | _, _, _, .dk (a := a) (kvs := kvs) (ds := ds) ha hd, r, hs, hz => by
    cases r
    obtain ⟨_, hsm, vs, hkv, o, es, ep, h1, h2, h3, _, h4, _⟩ := (show ObjOk X.prog X.w H s.heap a (.dK kvs) from I.hok a _ ha)
    obtain ⟨hk, hv⟩ := dict_parts hkv h4
    obtain ⟨as, hr⟩ := DAll.reads I hd hv
    obtain ⟨cs, hb⟩ := keys_read (h := s.heap) hk
    have hzp := zipKD_fst hd.length
    obtain ⟨s1, s2⟩ := PyData.showableKv_split (zipKD kvs ds) hs
    obtain ⟨b1, r1, k1⟩ := shwAll_keys (P := X.prog) (w := X.w) (h := s.heap) hk (by
      rw [← hzp.1]
      intro t m
      obtain ⟨p, hp, hl⟩ := PyData.shownKv_key_le _ t m
      exact Nat.le_trans hl (Nat.le_trans (dictText_mem_le hp) hz)) (by rw [← hzp.1]; exact s1)
    obtain ⟨b2, r2, k2⟩ := DAll.shw I hd hv (by rw [← hzp.2]; exact s2) (by
      rw [← hzp.2]
      intro t m
      obtain ⟨p, hp, hl⟩ := PyData.shownKv_val_le _ t m
      exact Nat.le_trans hl (Nat.le_trans (dictText_mem_le hp) hz))
    rw [← hzp.1] at r1 k1
    have r2' : ReadAtMost s.heap (PyData.depthAll ((zipKD kvs ds).map (·.2))) b2 := by rw [hzp.2]; exact r2
    have k2' : ReprAllK X.prog X.w b2 s.heap (PyData.depthAll ((zipKD kvs ds).map (·.2))) (es.toList.map (·.val)) (PyData.shownAll ((zipKD kvs ds).map (·.2))) := by rw [hzp.2]; exact k2
    have rd := Reads.dict (kvs := zipKD kvs ds) h1 h2.1 h3 (by rw [hzp.1]; exact hb) (by rw [hzp.2]; exact hr)
    have rb := (r1.mono (PyData.depthAll_keys_le (zipKD kvs ds))).append (r2'.mono (PyData.depthAll_vals_le (zipKD kvs ds)))
    have hn := not_mem_of_deeper rd (Nat.lt_succ_self _) rb
    have hE := ReprEntriesK.of_two es.toList _ _ (k1.more_le (fun b m => List.mem_append.mpr (.inl m)) (PyData.depthAll_keys_le (zipKD kvs ds))) (k2'.more_le (fun b m => List.mem_append.mpr (.inr m)) (PyData.depthAll_vals_le (zipKD kvs ds)))
    rw [← PyData.shownKv_eq] at hE
    exact ⟨_ :: (b1 ++ b2), ReadAtMost.cons rd (Nat.le_succ _) rb, ReprK.dict h1 h2.1 h3 hsm hn hE⟩
theorem DAll.shw (I : L2.Inv X pins σ H s) : ∀ {vs : List V} {ds : List PyData} {us : List Value}, DAll H vs ds → Vals vs us → PyData.showableAll ds = true → (∀ t ∈ PyData.shownAll ds, t.length ≤ sizeLine) → ShwAll X.prog X.w s.heap us ds
  | _, _, _, .nil, r, _, _ => by
    cases r
    exact ⟨[], (fun _ z => nomatch z), .nil⟩
  | _, _, _, .cons h1 h2, r, hs, hz => by
    cases r with
    | cons r1 r2 =>
      have hs2 := Bool.and_eq_true_iff.mp hs
      exact shwAll_cons (DA.shw I h1 r1 hs2.1 (hz _ List.mem_cons_self)) (DAll.shw I h2 r2 hs2.2 (fun t m => hz t (List.mem_cons_of_mem _ m)))
end
end
mutual
/-- the texts in a datum have repr texts of good signs, and are short -/
def okd : PyData → Bool
  | .str x => PyData.strOk (reprText x) && decide (x.length ≤ 1000000)
  | .list xs => okdAll xs
  | .tuple xs => okdAll xs
  | .dict kvs => PyData.strOk (PyData.dict kvs).shown
  | _ => true
def okdAll : List PyData → Bool
  | [] => true
  | x :: xs => okd x && okdAll xs
end
/-- a datum whose text has at most n signs, at most m levels -/
structure Fit (n m : Nat) (d : PyData) : Prop where
  sh : d.showable = true
  len : d.shown.length ≤ n
  dep : d.depth ≤ m
  ok : okd d = true
structure FitAll (n m : Nat) (ds : List PyData) : Prop where
  sh : PyData.showableAll ds = true
  len : piled (PyData.shownAll ds) ≤ n
  dep : PyData.depthAll ds ≤ m
  ok : okdAll ds = true
theorem FitAll.nil {n m : Nat} : FitAll n m [] := ⟨rfl, Nat.zero_le _, Nat.zero_le _, rfl⟩
theorem FitAll.cons {n k j m : Nat} {d : PyData} {ds : List PyData} (h : Fit n m d) (t : FitAll k m ds) (e : n + 2 + k ≤ j) : FitAll j m (d :: ds) := by
  refine ⟨?_, ?_, ?_, by show (okd d && okdAll ds) = true; rw [h.ok, t.ok]; rfl⟩
  · show (d.showable && PyData.showableAll ds) = true
    rw [h.sh, t.sh]
    rfl
  · show piled (d.shown :: PyData.shownAll ds) ≤ j
    rw [piled_cons]
    have := h.len
    have := t.len
    omega
  · show max d.depth (PyData.depthAll ds) ≤ m
    have := h.dep
    have := t.dep
    omega
theorem textFrom_piled : ∀ (ts : List Str) (k : Nat) (acc : Str), (textFrom k acc ts).length ≤ acc.length + piled ts
  | [], k, acc => Nat.le_add_right _ _
  | t :: r, k, acc => by
    have ih := textFrom_piled r (k + 1) (acc ++ (if k > 0 then ", " else "" : String) ++ t)
    show (textFrom (k + 1) (acc ++ (if k > 0 then ", " else "" : String) ++ t) r).length ≤ _
    have e1 : (acc ++ Str.ofString (if k > 0 then ", " else "" : String) ++ t).length ≤ acc.length + 2 + t.length := by
      rw [PySem.Str.length_append, PySem.Str.length_append]
      have : (Str.ofString (if k > 0 then ", " else "" : String)).length ≤ 2 := by
        split <;> decide
      omega
    rw [piled_cons]
    omega
theorem Fit.tup {n k m : Nat} {ds : List PyData} (h : FitAll n m ds) (e : n + 4 ≤ k) : Fit k (m + 1) (.tuple ds) := by
  refine ⟨h.sh, ?_, Nat.succ_le_succ h.dep, h.ok⟩
  · show (tupleText (PyData.shownAll ds)).length ≤ k
    unfold tupleText
    rw [PySem.Str.length_append, PySem.Str.length_append]
    have e1 : (Str.ofString "(").length = 1 := by decide
    have e2 : (Str.ofString (if (PyData.shownAll ds).length == 1 then ",)" else ")" : String)).length ≤ 2 := by
      split <;> decide
    have e3 : (Str.join ", " (PyData.shownAll ds)).length ≤ piled (PyData.shownAll ds) := by
      by_cases c : PyData.shownAll ds = []
      · rw [c]
        decide
      · have := join_length_add _ c
        omega
    have := h.len
    omega
theorem Fit.lst {n k m : Nat} {ds : List PyData} (h : FitAll n m ds) (e : n + 4 ≤ k) : Fit k (m + 1) (.list ds) := by
  refine ⟨h.sh, ?_, Nat.succ_le_succ h.dep, h.ok⟩
  show (listText (PyData.shownAll ds)).length ≤ k
  unfold listText
  rw [PySem.Str.length_append]
  have e1 : (Str.ofString "[").length = 1 := by decide
  have e2 : (Str.ofString "]").length = 1 := by decide
  have e3 := textFrom_piled (PyData.shownAll ds) 0 "["
  have := h.len
  omega
theorem Fit.dct {k m : Nat} (e : 2 ≤ k) (e2 : 1 ≤ m) : Fit k m (.dict []) := ⟨rfl, e, e2, by decide +kernel⟩
theorem Fit.non {n m : Nat} (e : 4 ≤ n) : Fit n m .none := ⟨rfl, e, Nat.zero_le _, rfl⟩
theorem Fit.bl {n m : Nat} {x : Bool} (e : 5 ≤ n) : Fit n m (.bool x) := ⟨rfl, by cases x; exact e; exact Nat.le_of_succ_le e, Nat.zero_le _, rfl⟩
theorem Fit.int {n m : Nat} {i : Int} (hi : i.natAbs < 2 ^ 40) (e : 42 ≤ n) : Fit n m (.int i) := by
  have h2 : i.natAbs.log2 < 40 := by
    by_cases c : i.natAbs = 0
    · rw [c]
      decide
    · exact (Nat.log2_lt c).mpr hi
  refine ⟨decide_eq_true (by omega), ?_, Nat.zero_le _, rfl⟩
  have h3 := int_text_length_le (a := i) (k := 40) (by decide) h2
  show (Str.ofString (toString i)).length ≤ n
  rw [PySem.ofString_length]
  omega
theorem Fit.intW {n m : Nat} {i : Int} (hi : i.natAbs < 2 ^ 200) (e : 202 ≤ n) : Fit n m (.int i) := by
  have h2 : i.natAbs.log2 < 200 := by
    by_cases c : i.natAbs = 0
    · rw [c]
      decide
    · exact (Nat.log2_lt c).mpr hi
  refine ⟨decide_eq_true (by omega), ?_, Nat.zero_le _, rfl⟩
  have h3 := int_text_length_le (a := i) (k := 200) (by decide) h2
  show (Str.ofString (toString i)).length ≤ n
  rw [PySem.ofString_length]
  omega
theorem Fit.str {n m : Nat} {x : Str} (e : (PyData.str x).shown.length ≤ n ∧ okd (.str x) = true) : Fit n m (.str x) := ⟨rfl, e.1, Nat.zero_le _, e.2⟩
theorem Fit.mono {n m k j : Nat} {d : PyData} (h : Fit n m d) (e : n ≤ k) (e2 : m ≤ j) : Fit k j d := ⟨h.sh, Nat.le_trans h.len e, Nat.le_trans h.dep e2, h.ok⟩
/-! ### repr of a datum -/
def rReprD (m : Nat) : List V → Hp → VK → Prop := fun vs H Q => ∃ (x : V) (d : PyData) (n : Nat), vs = [x] ∧ DA H x d ∧ Fit n m d ∧ n ≤ sizeLine ∧ Q (.str d.shown) H
theorem call_reprD {X : Cx} {m : Nat} (hg : X.A.guards = some []) (hu : X.A.units + (m + 1) < cLine) : CallR X (.builtin "repr") (rReprD m) := by
  intro pins s σ H xs us Q I r h
  obtain ⟨x, d, n, rfl, hd, hf, hn, q⟩ := h
  obtain ⟨u, rfl, rx⟩ := vals1 r
  have hz := Nat.le_trans hf.len hn
  have hdp := hf.dep
  cases hd with
  | non =>
    cases rx
    exact PySem.P.repr_of_none ⟨.str _, H, I.tok _, ⟨_, rfl⟩, q⟩
  | bl b =>
    cases rx
    exact PySem.P.repr_of_bool ⟨.str _, H, I.tok _, ⟨_, rfl⟩, q⟩
  | int i =>
    obtain ⟨t, rfl⟩ := rx
    exact PySem.P.repr_of_int (of_decide_eq_true hf.sh) ⟨.str _, H, I.tok _, ⟨_, rfl⟩, q⟩
  | str z =>
    obtain ⟨t, rfl⟩ := rx
    exact PySem.P.repr_of_str ⟨.str _, H, I.tok _, ⟨_, rfl⟩, q⟩ hz
  | @lst a xs ds hl ha =>
    cases rx
    obtain ⟨its, rv, ⟨o, k, ho, hc, _, hd⟩, _⟩ := I.list (.inl (.inl hl))
    obtain ⟨as, hr⟩ := DAll.reads I ha rv
    obtain ⟨bs, b1, k1⟩ := DAll.shw I ha rv hf.sh (fun t m => Nat.le_trans (listText_mem_le m) hz)
    have hnb := not_mem_of_deeper (Reads.list ho hc hd hr) (Nat.lt_succ_self _) b1
    have hdp : PyData.depthAll ds + 1 ≤ m := hdp
    refine call_repr_slot (by omega) ⟨o, ho, hc⟩ F.slot_list_repr.toG ?_
    cases its with
    | nil =>
      cases rv
      cases ha
      exact call_list_repr_empty ⟨o, ho, hc⟩ ho hd ⟨_, _, rfl, .str _, H, I.tok _, ⟨_, rfl⟩, q⟩
    | cons y l => exact call_list_reprK ho hc hd hnb (by rw [k1.length_eq]; rfl) (fun i z e => k1.item i z (by simpa using e)) hg (fun b _ => Clear.nil b) (by show X.A.units + 1 + _ < cLine; omega) (fun _ _ e => e) (fun h' u tk hk => ⟨_, _, rfl, .str _, H, I.kept hk, ⟨_, rfl⟩, q⟩) hz
  | @tup a u xs ds hl ht ha =>
    cases rx
    obtain ⟨its, rv, ⟨o, ho, hc, k, hd⟩, _⟩ := I.tuple (ht.sq hl)
    obtain ⟨as, hr⟩ := DAll.reads I ha rv
    obtain ⟨bs, b1, k1⟩ := DAll.shw I ha rv hf.sh (fun t m => Nat.le_trans (tupleText_mem_le m) hz)
    have hnb := not_mem_of_deeper (Reads.tuple ho hc hd hr) (Nat.lt_succ_self _) b1
    have hdp : PyData.depthAll ds + 1 ≤ m := hdp
    refine call_repr_slot (by omega) ⟨o, ho, hc⟩ F.slot_tuple_repr ?_
    exact call_tuple_reprK ho hc hd hnb k1 hg (fun b _ => Clear.nil b) (by show X.A.units + 1 + _ < cLine; omega) (fun _ _ e => e) (fun h' u tk hk => ⟨_, _, rfl, .str _, H, I.kept hk, ⟨_, rfl⟩, q⟩) hz
  | @dk a kvs ds ha hd =>
    cases rx
    have hsh := DA.shw I (.dk ha hd) (show RelV (.ref a) (.ref a) from rfl) hf.sh hz
    obtain ⟨_, hsm, vs, hkv, o, es, ep, h1, h2, h3, _, h4, _⟩ := (show ObjOk X.prog X.w H s.heap a (.dK kvs) from I.hok a _ ha)
    obtain ⟨hk, hv⟩ := dict_parts hkv h4
    obtain ⟨as, hr⟩ := DAll.reads I hd hv
    obtain ⟨cs, hb⟩ := keys_read (h := s.heap) hk
    have hzp := zipKD_fst hd.length
    obtain ⟨s1, s2⟩ := PyData.showableKv_split (zipKD kvs ds) hf.sh
    obtain ⟨b1, r1, k1⟩ := shwAll_keys (P := X.prog) (w := X.w) (h := s.heap) hk (by
      rw [← hzp.1]
      intro t m
      obtain ⟨p, hp, hl⟩ := PyData.shownKv_key_le _ t m
      exact Nat.le_trans hl (Nat.le_trans (dictText_mem_le hp) hz)) (by rw [← hzp.1]; exact s1)
    obtain ⟨b2, r2, k2⟩ := DAll.shw I hd hv (by rw [← hzp.2]; exact s2) (by
      rw [← hzp.2]
      intro t m
      obtain ⟨p, hp, hl⟩ := PyData.shownKv_val_le _ t m
      exact Nat.le_trans hl (Nat.le_trans (dictText_mem_le hp) hz))
    rw [← hzp.1] at r1 k1
    have r2' : ReadAtMost s.heap (PyData.depthAll ((zipKD kvs ds).map (·.2))) b2 := by rw [hzp.2]; exact r2
    have k2' : ReprAllK X.prog X.w b2 s.heap (PyData.depthAll ((zipKD kvs ds).map (·.2))) (es.toList.map (·.val)) (PyData.shownAll ((zipKD kvs ds).map (·.2))) := by rw [hzp.2]; exact k2
    have rd := Reads.dict (kvs := zipKD kvs ds) h1 h2.1 h3 (by rw [hzp.1]; exact hb) (by rw [hzp.2]; exact hr)
    have rb := (r1.mono (PyData.depthAll_keys_le (zipKD kvs ds))).append (r2'.mono (PyData.depthAll_vals_le (zipKD kvs ds)))
    have hnb := not_mem_of_deeper rd (Nat.lt_succ_self _) rb
    have hE := ReprEntriesK.of_two es.toList _ _ (k1.more_le (fun b m => List.mem_append.mpr (.inl m)) (PyData.depthAll_keys_le (zipKD kvs ds))) (k2'.more_le (fun b m => List.mem_append.mpr (.inr m)) (PyData.depthAll_vals_le (zipKD kvs ds)))
    rw [← PyData.shownKv_eq] at hE
    have hdp : PyData.depthKv (zipKD kvs ds) + 1 ≤ m := hdp
    refine call_repr_slot (by omega) ⟨o, h1, h2.1⟩ F.slot_dict_repr ?_
    exact call_dict_reprK h1 h2.1 h3 hsm hnb hE hg (fun b _ => Clear.nil b) (by show X.A.units + 1 + _ < cLine; omega) (fun _ _ e => e) (fun h' u tk hk => ⟨_, _, rfl, .str _, H, I.kept hk, ⟨_, rfl⟩, q⟩) hz
/-! ### new lists stand elsewhere than the modules -/
end Cb

end

section
set_option maxRecDepth 100000
set_option maxHeartbeats 4000000
/-! Cb, part U (second): isinstance of any datum; lemmas by which facts are carried from heap to heap. -/
namespace Cb
open PySem PySem.Spec PyProof.Rows L2
def tyN : PyData → String
  | .none => "NoneType" | .bool _ => "bool" | .int _ => "int" | .str _ => "str" | .list _ => "list" | .tuple _ => "tuple" | .dict _ => "dict"
theorem DA.ty {K : PySem.W.Frag} {H : Hp} {v : V} {d : PyData} (h : DA H v d) : TyX K H v (.type (tyN d)) := by
  cases h with
  | non => exact .base .non
  | bl b => exact .base (.bl b)
  | int i => exact .base (.int i)
  | str x => exact .base (.str x)
  | lst h _ => exact .base (.lst h)
  | tup h t _ =>
    obtain ⟨o, rfl, _⟩ := t
    exact .fTuple h
  | dk h _ => exact .base (.dK h)
def isInt : PyData → Bool
  | .bool _ => true | .int _ => true | _ => false
def isBool : PyData → Bool
  | .bool _ => true | _ => false
def isStr : PyData → Bool
  | .str _ => true | _ => false
def isTup : PyData → Bool
  | .tuple _ => true | _ => false
theorem kb_int : ∀ d : PyData, kitB (tyN d) "int" = some (isInt d)
  | .none => (by decide +kernel : kitB "NoneType" "int" = some false)
  | .bool _ => (by decide +kernel : kitB "bool" "int" = some true)
  | .int _ => (by decide +kernel : kitB "int" "int" = some true)
  | .str _ => (by decide +kernel : kitB "str" "int" = some false)
  | .list _ => (by decide +kernel : kitB "list" "int" = some false)
  | .tuple _ => (by decide +kernel : kitB "tuple" "int" = some false)
  | .dict _ => (by decide +kernel : kitB "dict" "int" = some false)
theorem kb_bool : ∀ d : PyData, kitB (tyN d) "bool" = some (isBool d)
  | .none => (by decide +kernel : kitB "NoneType" "bool" = some false)
  | .bool _ => (by decide +kernel : kitB "bool" "bool" = some true)
  | .int _ => (by decide +kernel : kitB "int" "bool" = some false)
  | .str _ => (by decide +kernel : kitB "str" "bool" = some false)
  | .list _ => (by decide +kernel : kitB "list" "bool" = some false)
  | .tuple _ => (by decide +kernel : kitB "tuple" "bool" = some false)
  | .dict _ => (by decide +kernel : kitB "dict" "bool" = some false)
theorem kb_str : ∀ d : PyData, kitB (tyN d) "str" = some (isStr d)
  | .none => (by decide +kernel : kitB "NoneType" "str" = some false)
  | .bool _ => (by decide +kernel : kitB "bool" "str" = some false)
  | .int _ => (by decide +kernel : kitB "int" "str" = some false)
  | .str _ => (by decide +kernel : kitB "str" "str" = some true)
  | .list _ => (by decide +kernel : kitB "list" "str" = some false)
  | .tuple _ => (by decide +kernel : kitB "tuple" "str" = some false)
  | .dict _ => (by decide +kernel : kitB "dict" "str" = some false)
theorem kb_tuple : ∀ d : PyData, kitB (tyN d) "tuple" = some (isTup d)
  | .none => (by decide +kernel : kitB "NoneType" "tuple" = some false)
  | .bool _ => (by decide +kernel : kitB "bool" "tuple" = some false)
  | .int _ => (by decide +kernel : kitB "int" "tuple" = some false)
  | .str _ => (by decide +kernel : kitB "str" "tuple" = some false)
  | .list _ => (by decide +kernel : kitB "list" "tuple" = some false)
  | .tuple _ => (by decide +kernel : kitB "tuple" "tuple" = some true)
  | .dict _ => (by decide +kernel : kitB "dict" "tuple" = some false)
theorem DA.new {H : Hp} {p : Addr} {u : HO} {v : V} {d : PyData} (n : H p = none) (h : DA H v d) : DA (upd H p u) v d := h.same (same_upd n)
theorem DA.hid {M : List Addr} {H : Hp} {v : V} {d : PyData} (h : DA (Hid M H) v d) : DA H v d := h.same hid_sub
theorem DAll.hid {M : List Addr} {H : Hp} {v : List V} {d : List PyData} (h : DAll (Hid M H) v d) : DAll H v d := h.same hid_sub
theorem DAll.new {H : Hp} {p : Addr} {u : HO} {v : List V} {d : List PyData} (n : H p = none) (h : DAll H v d) : DAll (upd H p u) v d := h.same (same_upd n)
theorem PoolAt.new {H : Hp} {p c : Addr} {u : HO} (n : H p = none) (h : PoolAt H c) : PoolAt (upd H p u) c := h.same (same_upd n)
end Cb

end

section
set_option maxRecDepth 100000
set_option maxHeartbeats 4000000
/-! Cb, part V (second): comprehensions whose items are plain values (numbers, truths), as maps. -/
namespace Cb
open PySem PySem.Spec PyProof.Rows L2
section
variable {K : PySem.W.Frag} {a D : Addr} {xs : List V} {jx : Nat} {te : TE} {vs : List Nat} {σ : L2.St} {H1 : Hp} {Qd : Hp → Prop}
/-- what has been made so far -/
def MadeV (H1 : Hp) (D : Addr) (G : Nat → V → Prop) (i : Nat) (H : Hp) : Prop := L2.Same H1 H ∧ ∃ ys : List V, H D = some (.lst ys) ∧ ys.length = i ∧ ∀ j y, ys[j]? = some y → G j y
theorem MadeV.more {G : Nat → V → Prop} {H H4 : Hp} {i : Nat} {y : V} (hD : H1 D = none) (hi : i < 5000000) (m : MadeV H1 D G i H) (s : L2.Same H H4) (hy : G i y) : ∃ acc, H4 D = some (.lst acc) ∧ acc.length < sizeLine ∧ MadeV H1 D G (i + 1) (upd H4 D (.lst (acc ++ [y]))) := by
  obtain ⟨sm, ys, hd, hl, hg⟩ := m
  refine ⟨ys, s _ _ hd, by rw [hl]; exact Nat.lt_of_lt_of_le hi (by decide), fun b o e => ?_, ys ++ [y], upd_same, by rw [List.length_append, hl]; rfl, fun j z e => ?_⟩
  · rw [upd_ne (ne_of_none e hD)]
    exact s _ _ (sm _ _ e)
  · by_cases c : j < ys.length
    · rw [List.getElem?_append_left c] at e
      exact hg j z e
    · rw [List.getElem?_append_right (by omega)] at e
      have hj : j - ys.length = 0 := by
        rcases Nat.eq_zero_or_pos (j - ys.length) with z | z
        · exact z
        · rw [List.getElem?_eq_none (by simp only [List.length_singleton]; exact z)] at e
          cases e
      rw [hj] at e
      cases e
      have : j = i := by omega
      subst this
      exact hy
end
end Cb

end

section
set_option maxRecDepth 100000
set_option maxHeartbeats 4000000
/-! Cb, part Y (second): comprehensions over a text and over a range, as maps. -/
namespace Cb
open PySem PySem.Spec PyProof.Rows L2
end Cb

end

section
set_option maxRecDepth 100000
set_option maxHeartbeats 4000000
/-! Cb, part X (second): data that fit, by bounds alone, in the part of a heap that stays; cuts between statements; calls by a keyword; lists without dicts beside them; drawn items. -/
namespace Cb
open PySem PySem.Spec PyProof.Rows L2
theorem Fit.tup' {n m : Nat} {ds : List PyData} (h : FitAll n m ds) : Fit (n + 4) (m + 1) (.tuple ds) := Fit.tup h (Nat.le_refl _)
theorem Fit.lst' {n m : Nat} {ds : List PyData} (h : FitAll n m ds) : Fit (n + 4) (m + 1) (.list ds) := Fit.lst h (Nat.le_refl _)
theorem FitAll.cons' {n k m : Nat} {d : PyData} {ds : List PyData} (h : Fit n m d) (t : FitAll k m ds) : FitAll (n + 2 + k) m (d :: ds) := .cons h t (Nat.le_refl _)
theorem FitAll.nil' {m : Nat} : FitAll 0 m [] := .nil
theorem Fit.up {n m j : Nat} {d : PyData} (h : Fit n m d) (e2 : m ≤ j) : Fit n j d := h.mono (Nat.le_refl _) e2
theorem Fit.int' {m : Nat} {i : Int} (hi : i.natAbs < 2 ^ 40) : Fit 42 m (.int i) := Fit.int hi (Nat.le_refl _)
theorem Fit.bl' {x : Bool} {m : Nat} : Fit 5 m (.bool x) := Fit.bl (Nat.le_refl _)
theorem Fit.non' {m : Nat} : Fit 4 m .none := Fit.non (Nat.le_refl _)
theorem FitAll.mono {n m k j : Nat} {d : List PyData} (h : FitAll n m d) (e : n ≤ k) (e2 : m ≤ j) : FitAll k j d := ⟨h.sh, Nat.le_trans h.len e, Nat.le_trans h.dep e2, h.ok⟩
/-- many fitting data, side by side -/
theorem FitAll.app {n k m : Nat} : ∀ {ds es : List PyData}, FitAll n m ds → FitAll k m es → FitAll (n + k) m (ds ++ es)
  | [], es, _, h => h.mono (by omega) (Nat.le_refl _)
  | d :: ds, es, h, t => by
    have hs := Bool.and_eq_true_iff.mp (show (d.showable && PyData.showableAll ds) = true from h.sh)
    have ho := Bool.and_eq_true_iff.mp (show (okd d && okdAll ds) = true from h.ok)
    have hd : max d.depth (PyData.depthAll ds) ≤ m := h.dep
    have hl : d.shown.length + 2 + piled (PyData.shownAll ds) ≤ n := by
      have h1 := h.len
      have h2 : piled (d.shown :: PyData.shownAll ds) ≤ n := h1
      rw [piled_cons] at h2
      omega
    have h1 : Fit d.shown.length m d := ⟨hs.1, Nat.le_refl _, by omega, ho.1⟩
    have h2 : FitAll (piled (PyData.shownAll ds)) m ds := ⟨hs.2, Nat.le_refl _, by omega, ho.2⟩
    exact FitAll.cons h1 (FitAll.app h2 t) (by omega)
theorem FitAll.fst {n m : Nat} {d : PyData} {ds : List PyData} (h : FitAll n m (d :: ds)) : Fit d.shown.length m d ∧ FitAll (n - (d.shown.length + 2)) m ds ∧ d.shown.length + 2 ≤ n := by
  have hs := Bool.and_eq_true_iff.mp (show (d.showable && PyData.showableAll ds) = true from h.sh)
  have ho := Bool.and_eq_true_iff.mp (show (okd d && okdAll ds) = true from h.ok)
  have hd : max d.depth (PyData.depthAll ds) ≤ m := h.dep
  have hl : d.shown.length + 2 + piled (PyData.shownAll ds) ≤ n := by
    have h2 : piled (d.shown :: PyData.shownAll ds) ≤ n := h.len
    rw [piled_cons] at h2
    omega
  exact ⟨⟨hs.1, Nat.le_refl _, by omega, ho.1⟩, ⟨hs.2, by omega, by omega, ho.2⟩, by omega⟩
/-- a row of data parted at a place -/
theorem FitAll.split {m : Nat} : ∀ {n : Nat} {ds : List PyData} (k : Nat), FitAll n m ds → ∃ a b, a + b ≤ n ∧ FitAll a m (ds.take k) ∧ FitAll b m (ds.drop k)
  | n, ds, 0, h => ⟨0, n, by omega, .nil, h⟩
  | n, [], k + 1, h => ⟨0, n, by omega, .nil, h⟩
  | n, d :: ds, k + 1, h => by
    obtain ⟨h1, h2, h3⟩ := h.fst
    obtain ⟨a, b, e, t1, t2⟩ := FitAll.split k h2
    exact ⟨d.shown.length + 2 + a, b, by omega, FitAll.cons h1 t1 (Nat.le_refl _), t2⟩
/-- a datum of at most n signs and m levels stands at v -/
def Dat (n m : Nat) (H : Hp) (v : V) : Prop := ∃ d, DA H v d ∧ Fit n m d
/-- many of them -/
def DatL (n m : Nat) (H : Hp) (vs : List V) : Prop := ∃ ds, DAll H vs ds ∧ FitAll n m ds
/-- every item is one -/
def AllD (n m : Nat) (H : Hp) (xs : List V) : Prop := ∀ x ∈ xs, Dat n m H x
theorem Dat.sub {n m : Nat} {H H' : Hp} {v : V} (s : L2.Same H H') (h : Dat n m H v) : Dat n m H' v := by
  obtain ⟨d, h1, h2⟩ := h
  exact ⟨d, h1.same s, h2⟩
theorem DatL.sub {n m : Nat} {H H' : Hp} {v : List V} (s : L2.Same H H') (h : DatL n m H v) : DatL n m H' v := by
  obtain ⟨d, h1, h2⟩ := h
  exact ⟨d, h1.same s, h2⟩
theorem AllD.sub {n m : Nat} {H H' : Hp} {v : List V} (s : L2.Same H H') (h : AllD n m H v) : AllD n m H' v := fun x hx => (h x hx).sub s
section
variable {n m k j : Nat} {M : List Addr} {H H' : Hp} {p c l : Addr} {u : HO} {v : V} {vs ys : List V}
theorem Dat.mono (h : Dat n m H v) (e : n ≤ k) (e2 : m ≤ j) : Dat k j H v := by
  obtain ⟨d, h1, h2⟩ := h
  exact ⟨d, h1, h2.mono e e2⟩
theorem Dat.up (e : m ≤ j) (h : Dat n m H v) : Dat n j H v := h.mono (Nat.le_refl _) e
theorem DatL.mono (h : DatL n m H vs) (e : n ≤ k) (e2 : m ≤ j) : DatL k j H vs := by
  obtain ⟨d, h1, h2⟩ := h
  exact ⟨d, h1, h2.mono e e2⟩
theorem DatL.nil : DatL 0 m H [] := ⟨[], .nil, .nil⟩
theorem DatL.cons (h : Dat n m H v) (t : DatL k m H vs) : DatL (n + 2 + k) m H (v :: vs) := by
  obtain ⟨d, h1, h2⟩ := h
  obtain ⟨ds, t1, t2⟩ := t
  exact ⟨d :: ds, .cons h1 t1, .cons' h2 t2⟩
theorem Dat.tup {a : Addr} {u : HO} (e : H a = some u) (t : TupO u vs) (h : DatL n m (Hid M H) vs) : Dat (n + 4) (m + 1) (Hid M H) (.ref a) := by
  obtain ⟨ds, h1, h2⟩ := h
  exact ⟨.tuple ds, .tup (hid_tup e t) t h1, .tup' h2⟩
theorem Dat.lst {a : Addr} (e : H a = some (.lst vs)) (nm : a ∉ M) (h : DatL n m (Hid M H) vs) : Dat (n + 4) (m + 1) (Hid M H) (.ref a) := by
  obtain ⟨ds, h1, h2⟩ := h
  exact ⟨.list ds, .lst (hid_lst e nm) h1, .lst' h2⟩
theorem Dat.dct {a : Addr} (e : H a = some (.dK [])) (nm : a ∉ M) : Dat 2 (m + 1) (Hid M H) (.ref a) := ⟨_, .dct (hid_dK e nm), .dct (Nat.le_refl _) (Nat.le_add_left _ _)⟩
theorem Dat.non : Dat 4 m H .non := ⟨_, .non, .non'⟩
theorem Dat.bl {x : Bool} : Dat 5 m H (.bl x) := ⟨_, .bl x, .bl'⟩
theorem Dat.int {i : Int} (hi : i.natAbs < 2 ^ 40) : Dat 42 m H (.int i) := ⟨_, .int i, .int' hi⟩
theorem Dat.intW {i : Int} (hi : i.natAbs < 2 ^ 200) : Dat 202 m H (.int i) := ⟨_, .int i, .intW hi (Nat.le_refl _)⟩
theorem Dat.str {x : Str} (hx : (PyData.str x).shown.length ≤ 20 ∧ okd (.str x) = true) : Dat 20 m H (.str x) := ⟨_, .str x, .str hx⟩
theorem AllD.nil : AllD n m H [] := fun _ h => nomatch h
theorem AllD.cons (h : Dat k m H v) (e : k ≤ n) (t : AllD n m H vs) : AllD n m H (v :: vs) := fun y hy => by
  rcases List.mem_cons.mp hy with z | z
  · rw [z]
    exact h.mono e (Nat.le_refl _)
  · exact t y z
theorem AllD.app {xs : List V} (h : AllD n m H xs) (t : AllD n m H ys) : AllD n m H (xs ++ ys) := fun y hy => by
  rcases List.mem_append.mp hy with z | z
  · exact h y z
  · exact t y z
theorem AllD.mono (h : AllD n m H vs) (e : n ≤ k) (e2 : m ≤ j) : AllD k j H vs := fun y hy => (h y hy).mono e e2
end
theorem DAll.app {H : Hp} : ∀ {a b : List V} {c d : List PyData}, DAll H a c → DAll H b d → DAll H (a ++ b) (c ++ d)
  | _, _, _, _, .nil, t => t
  | _, _, _, _, .cons h r, t => .cons h (DAll.app r t)
theorem DAll.take {H : Hp} : ∀ {a : List V} {c : List PyData} (k : Nat), DAll H a c → DAll H (a.take k) (c.take k)
  | _, _, 0, _ => .nil
  | _, _, k + 1, .nil => .nil
  | _, _, k + 1, .cons h r => .cons h (DAll.take k r)
theorem DAll.drop {H : Hp} : ∀ {a : List V} {c : List PyData} (k : Nat), DAll H a c → DAll H (a.drop k) (c.drop k)
  | _, _, 0, h => h
  | _, _, k + 1, .nil => .nil
  | _, _, k + 1, .cons h r => DAll.drop k r
theorem dall_at {H : Hp} : ∀ {vs : List V} {ds : List PyData} {i : Nat} {x : V}, DAll H vs ds → vs[i]? = some x → ∃ d, ds[i]? = some d ∧ DA H x d
  | _, _, _, _, .nil, e => by simp at e
  | _, _, 0, _, .cons r _, e => ⟨_, rfl, by cases e; exact r⟩
  | _, _, i + 1, x, .cons _ t, e => dall_at (i := i) t e
theorem DatL.app {n k m : Nat} {H : Hp} {xs ys : List V} (h : DatL n m H xs) (t : DatL k m H ys) : DatL (n + k) m H (xs ++ ys) := by
  obtain ⟨ds, h1, h2⟩ := h
  obtain ⟨es, t1, t2⟩ := t
  exact ⟨ds ++ es, h1.app t1, h2.app t2⟩
theorem DatL.split {n m : Nat} {H : Hp} {xs : List V} (k : Nat) (h : DatL n m H xs) : ∃ a b, a + b ≤ n ∧ DatL a m H (xs.take k) ∧ DatL b m H (xs.drop k) := by
  obtain ⟨ds, h1, h2⟩ := h
  obtain ⟨a, b, e, t1, t2⟩ := h2.split k
  exact ⟨a, b, e, ⟨_, h1.take k, t1⟩, ⟨_, h1.drop k, t2⟩⟩
/-- all items of a list that fit alike -/
theorem AllD.list {n m : Nat} {H : Hp} : ∀ {xs : List V}, AllD n m H xs → DatL ((n + 2) * xs.length) m H xs
  | [], _ => DatL.nil.mono (Nat.zero_le _) (Nat.le_refl _)
  | x :: xs, h => by
    have h1 := h x List.mem_cons_self
    have h2 := AllD.list (xs := xs) fun y hy => h y (List.mem_cons_of_mem _ hy)
    refine (DatL.cons h1 h2).mono ?_ (Nat.le_refl _)
    rw [List.length_cons, Nat.mul_succ]
    omega
/-! ### between two statements -/
theorem unitsN {k : Nat} {A : Around} (r : Room k A) : A.units + (100 + 1) < cLine := by
  have := r.un
  omega
theorem units64 {k : Nat} {A : Around} (r : Room k A) : A.units + 64 < cLine := by
  have := r.un
  omega
/-- a def called by keywords -/
theorem givesK_fun {P : Program} {w : World} {K : PySem.W.Frag} {mg : Str → Option Value} {base : Heap} {k : Nat} {x : Str} {st : Stmt} {N ps ks : List Str} {sp : Sp} (T : Stands K mg x st) (S : FnScope N ps (defScope st))
    (hb : ∀ (kV doc pm : Value) (an : Option Addr) (cdv ct : Value) (us ws : List Value), ws.length = ks.length → us.length + ws.length = ps.length → bindArgs (PySem.W.fnOf x x (defArgs st) (defBody st) (defScope st) .none kV doc pm an cdv ct) ⟨us, ks.zip ws⟩ = pure (ps.zip (us ++ ws)))
    (len : ∀ vs H Q E, sp vs H Q E → vs.length = ps.length)
    (hbody : ∀ (f : Addr) (cdv : Value) (A : Around) (outer : List Env) (s : Shared) (H : Hp) (vs : List V) (Q : VK) (E : XK), Room k (A.deeper (envOfC x (defScope st) s.heap.objs.size f cdv)) → sp vs H Q E →
      ∃ t, PSs (cxOf CX0 P w K mg base N x (defScope st) f cdv A outer s H E).nox (defBody st) t ∧ t { nx := fun _ H' => Q .non H', rt := Q } (start N vs) H) :
    GivesK P w K mg base CX0 (k + 1) x ks sp := by
  obtain ⟨f, fd, hm, F⟩ := T
  refine givesK_of hm F.kp (F.ok S len (hbody f)) ?_
  obtain ⟨oc, od, kV, doc, pm, an, cdv, ct, osl, rfl, lk, hcd⟩ := F.ex
  exact hb kV doc pm an cdv ct
end Cb

end

section
set_option maxRecDepth 100000
set_option maxHeartbeats 4000000
/-! Cb, part Z (second): a tuple against (), data that are read, comprehensions with any target, texts in order. -/
namespace Cb
open PySem PySem.Spec PyProof.Rows L2
/-! ### a tuple against the empty tuple -/
def rEq0 (K : PySem.W.Frag) : R2 := fun x y H Q => ∃ a b xs, x = .ref a ∧ y = .ref b ∧ SqT K H a xs ∧ SqT K H b [] ∧ Q (.bl xs.isEmpty) H
def rNe0 (K : PySem.W.Frag) : R2 := fun x y H Q => ∃ a b xs, x = .ref a ∧ y = .ref b ∧ SqT K H a xs ∧ SqT K H b [] ∧ Q (.bl (!xs.isEmpty)) H
theorem istup_of {h : Heap} {a : Addr} {items : Array Value} (x : IsTup h a items) : h.IsTuple a items := by
  obtain ⟨o, ho, hc, n, hd⟩ := x
  exact ⟨o, ho, hc, n, hd⟩
theorem emp_at {xs : List V} {its : List Value} (r : Vals xs its) : ((List.range (min its.toArray.size (#[] : Array Value).size)).all (fun _ => true) && its.toArray.size == (#[] : Array Value).size) = xs.isEmpty := by
  cases r with
  | nil => rfl
  | cons r rs => simp
theorem op_eq0 {X : Cx} (hu : X.A.units < cLine) : OpR X (compareOp .Eq) (rEq0 X.K) := by
  intro pins s σ H x y v u Q I rx ry h
  obtain ⟨a, b, xs, rfl, rfl, h1, h2, q⟩ := h
  cases rx
  cases ry
  obtain ⟨its, r1, t1, _⟩ := I.tuple h1
  obtain ⟨jts, r2, t2, _⟩ := I.tuple h2
  cases r2
  refine SeqAt.eq_tupleAt (e := fun _ => true) (istup_of t1) (istup_of t2) hu (fun j _ z => absurd z (Nat.not_lt_zero _)) ⟨.bl _, H, I, ?_, q⟩
  rw [emp_at r1]
  rfl
theorem op_ne0 {X : Cx} (hu : X.A.units < cLine) : OpR X (compareOp .NotEq) (rNe0 X.K) := by
  intro pins s σ H x y v u Q I rx ry h
  obtain ⟨a, b, xs, rfl, rfl, h1, h2, q⟩ := h
  cases rx
  cases ry
  obtain ⟨its, r1, t1, _⟩ := I.tuple h1
  obtain ⟨jts, r2, t2, _⟩ := I.tuple h2
  cases r2
  refine (SeqAt.RcNeAt.tuples (e := fun _ => true) (istup_of t1) (istup_of t2) hu (fun j _ z => absurd z (Nat.not_lt_zero _))) X.prog X.w _ _ ⟨.bl _, H, I, ?_, q⟩
  rw [emp_at r1]
  rfl
/-! ### data that are read -/
abbrev gN : Nat := 4000000
/-- a datum of a bounded text -/
structure Good (d : PyData) : Prop where
  f : Fit gN 100 d
theorem Good.ok {d : PyData} (h : Good d) : okd d = true := h.f.ok
theorem piled_at {ts : List Str} {i : Nat} {t : Str} (e : ts[i]? = some t) : t.length + 2 ≤ piled ts := by
  induction ts generalizing i with
  | nil => simp at e
  | cons x xs ih =>
    rw [piled_cons]
    cases i with
    | zero =>
      cases e
      omega
    | succ i =>
      have := ih e
      omega
theorem piled_many (ts : List Str) : 2 * ts.length ≤ piled ts := by
  induction ts with
  | nil => exact Nat.zero_le _
  | cons x xs ih =>
    rw [piled_cons, List.length_cons]
    omega
theorem shownAll_len : ∀ ds : List PyData, (PyData.shownAll ds).length = ds.length
  | [] => rfl
  | d :: ds => congrArg (· + 1) (shownAll_len ds)
theorem shownAll_at : ∀ {ds : List PyData} {i : Nat} {d : PyData}, ds[i]? = some d → (PyData.shownAll ds)[i]? = some d.shown
  | [], i, d, e => by simp at e
  | x :: xs, 0, d, e => by cases e; rfl
  | x :: xs, i + 1, d, e => shownAll_at (ds := xs) (i := i) e
theorem showAll_at : ∀ {ds : List PyData} {i : Nat} {d : PyData}, PyData.showableAll ds = true → ds[i]? = some d → d.showable = true
  | [], i, d, _, e => by simp at e
  | x :: xs, 0, d, h, e => by
    cases e
    exact (Bool.and_eq_true_iff.mp (show (x.showable && PyData.showableAll xs) = true from h)).1
  | x :: xs, i + 1, d, h, e => showAll_at (ds := xs) (i := i) (Bool.and_eq_true_iff.mp (show (x.showable && PyData.showableAll xs) = true from h)).2 e
theorem depthAll_at : ∀ {ds : List PyData} {i : Nat} {d : PyData}, ds[i]? = some d → d.depth ≤ PyData.depthAll ds
  | [], i, d, e => by simp at e
  | x :: xs, 0, d, e => by
    cases e
    exact Nat.le_max_left x.depth (PyData.depthAll xs)
  | x :: xs, i + 1, d, e => Nat.le_trans (depthAll_at (ds := xs) (i := i) e) (Nat.le_max_right x.depth (PyData.depthAll xs))
theorem okAll_at : ∀ {ds : List PyData} {i : Nat} {d : PyData}, okdAll ds = true → ds[i]? = some d → okd d = true
  | [], i, d, _, e => by simp at e
  | x :: xs, 0, d, h, e => by
    cases e
    exact (Bool.and_eq_true_iff.mp (show (okd x && okdAll xs) = true from h)).1
  | x :: xs, i + 1, d, h, e => okAll_at (ds := xs) (i := i) (Bool.and_eq_true_iff.mp (show (okd x && okdAll xs) = true from h)).2 e
theorem piled_le_tuple {ts : List Str} : piled ts ≤ (tupleText ts).length := by
  unfold tupleText
  rw [PySem.Str.length_append, PySem.Str.length_append]
  have e1 : (Str.ofString "(").length = 1 := by decide
  by_cases c : ts = []
  · rw [c]
    exact Nat.zero_le _
  · have := join_length_add _ c
    have e2 : 1 ≤ (Str.ofString (if ts.length == 1 then ",)" else ")" : String)).length := by
      split <;> decide
    omega
theorem Good.at {ds : List PyData} {i : Nat} {d : PyData} (h : Good (.tuple ds)) (e : ds[i]? = some d) : Good d := by
  have h1 : (tupleText (PyData.shownAll ds)).length ≤ gN := h.f.len
  have h2 := piled_le_tuple (ts := PyData.shownAll ds)
  have h3 := piled_at (shownAll_at e)
  have h4 : PyData.depthAll ds + 1 ≤ 100 := h.f.dep
  have h5 := depthAll_at e
  exact ⟨showAll_at h.f.sh e, by omega, by omega, okAll_at h.f.ok e⟩
theorem Good.len {ds : List PyData} (h : Good (.tuple ds)) : ds.length ≤ 4000000 := by
  have h1 : (tupleText (PyData.shownAll ds)).length ≤ gN := h.f.len
  have h2 := piled_le_tuple (ts := PyData.shownAll ds)
  have h3 := piled_many (PyData.shownAll ds)
  rw [shownAll_len] at h3
  have : gN = 4000000 := rfl
  omega
/-! ### comprehensions with any target -/
/-! ### texts in order -/
def ascS : List Str → Bool
  | x :: y :: r => decide (x.cps.toList < y.cps.toList) && ascS (y :: r)
  | _ => true
def sAt (xs : List Str) (j : Nat) : Str := (xs[j]?).getD ""
theorem asc_range : ∀ xs : List Str, ((List.range (xs.length - 1)).map fun j => decide ((sAt xs j).cps.toList < (sAt xs (j + 1)).cps.toList)).all id = ascS xs
  | [] => rfl
  | [x] => rfl
  | x :: y :: r => by
    have ih := asc_range (y :: r)
    show ((List.range (r.length + 1)).map _).all id = (decide (x.cps.toList < y.cps.toList) && ascS (y :: r))
    rw [← ih, List.range_succ_eq_map, List.map_cons, List.all_cons, List.map_map]
    rfl
end Cb

end

section
set_option maxRecDepth 100000
set_option maxHeartbeats 4000000
/-! Cb, part R (second): a loop over zip(tuple, text). -/
namespace Cb
open PySem PySem.Spec PyProof.Rows L2
/-- the tuple at a beside the signs of x, the items in new pairs -/
def ItzS (K : PySem.W.Frag) (a : Addr) (x : Str) : It :=
  ⟨fun i H => ∃ (xs : List V) (y : V) (c : Nat), SqT K H a xs ∧ xs[i]? = some y ∧ x.cps[i]? = some c,
    fun i H v H' => ∃ T y c, v = .ref T ∧ H T = none ∧ H' = upd H T (.tup [y, .str ⟨#[c]⟩]) ∧ (∀ xs, SqT K H a xs → xs[i]? = some y) ∧ x.cps[i]? = some c,
    fun i H => ∃ xs : List V, SqT K H a xs ∧ i ≤ xs.length ∧ i ≤ x.cps.size ∧ (i = xs.length ∨ i = x.cps.size)⟩
theorem turn_zipS {P : Program} {w : World} {K : PySem.W.Frag} {elts : List Expr} {kk : Nat} {tpos : Pos} {a : Addr} {x : Str} {t : Tok} {z TI TO i1 i2 : Addr} (hne : a ≠ i1) (D : ZipSep2 z TI TO i1 i2 [i1, a] [i2]) (haz : a ≠ z) (haO : a ≠ TO) (ha2 : a ≠ i2) :
    Turn P w K (.Tuple elts kk tpos) (ItzS K a x) [z, TI, TO, i1, i2] z (fun i h => IsZip h z TI TO .none ∧ IsTupOf2 h TI (.ref i1) (.ref i2) ∧ (∃ y u, IsTupOf2 h TO y u) ∧ h.IsTupleIter i1 a i ∧ h.IsStrIter i2 (strIterType x) x t i) where
  mem := by simp
  obj := fun i h st c hc => by
    obtain ⟨hz, hTI, ⟨y, u, hTO⟩, ⟨o1, e1, _, d1⟩, ⟨o2, e2, _, d2⟩⟩ := st
    have e' : c = z ∨ c = TI ∨ c = TO ∨ c = i1 ∨ c = i2 := by simpa using hc
    rcases e' with q | q | q | q | q
    · rw [q]; exact ⟨_, hz, fun v q => nomatch q⟩
    · rw [q]; exact ⟨_, hTI, fun v q => nomatch q⟩
    · rw [q]; exact ⟨_, hTO, fun v q => nomatch q⟩
    · rw [q]; exact ⟨o1, e1, fun v q => by rw [d1] at q; cases q⟩
    · rw [q]; exact ⟨o2, e2, fun v q => by rw [d2] at q; cases q⟩
  keep := fun i h h' st k => by
    obtain ⟨hz, hTI, ⟨y, u, hTO⟩, ⟨o1, e1, r1⟩, ⟨o2, e2, r2⟩⟩ := st
    exact ⟨k z (by simp) _ hz, k TI (by simp) _ hTI, ⟨y, u, k TO (by simp) _ hTO⟩, ⟨o1, k i1 (by simp) _ e1, r1⟩, ⟨o2, k i2 (by simp) _ e2, r2⟩⟩
  item := by
    intro X hP hw hK hc i pins s σ H E I hf st hg
    subst hP hw hK
    obtain ⟨hz, hTI, ⟨y0, u0, hTO⟩, h1, h2⟩ := st
    obtain ⟨xs, y, c, hq, hx, hcx⟩ := hg
    obtain ⟨its, rv, p, _⟩ := I.tuple hq
    have p' : s.heap.IsTuple a its.toArray := p
    have l1 := rv.length
    have hi1 : i < its.toArray.size := by
      have := (List.getElem?_eq_some_iff.mp hx).1
      rw [List.size_toArray]
      omega
    have hi2 : i < x.cps.size := (Array.getElem?_eq_some_iff.mp hcx).1
    have hzl : z < s.heap.objs.size := Heap.lt_size hz
    have hh : X.A.in1.handled = none := I.ok.hd hc
    refine wpAny_pyNext_zipD2_item D (Draws.tuple hh i1 a hne its.toArray) (Draws.text hh i2 x t) hz hTI hTO ⟨h1, p'⟩ h2 hi1 hi2 fun v1 v2 h' tk y1 y2 z' TO' st1 st2 hT hsz hk => ?_
    obtain ⟨c2, u2, e2, rfl⟩ := y2
    rw [hcx] at e2
    cases e2
    obtain ⟨u, hu, ru⟩ := rv.get hx
    have ev : v1 = u := by
      have : its.toArray[i]? = some u := by simpa using hu
      rw [this] at y1
      exact (Option.some.inj y1).symm
    subst ev
    refine ⟨_, rfl, wpAny_letOwnedTupleGo_zip (s := { s with heap := h', toks := tk }) z' fun h'' z'' sb => ?_⟩
    have hT2 : h''.get? s.heap.objs.size = some { cls := .type "tuple", data := .seq #[v1, .str ⟨#[c]⟩ u2] } := (sb.2 _ (Nat.ne_of_gt hzl)).trans hT
    have new : ObjOk X.prog X.w (upd H s.heap.objs.size (.tup [y, .str ⟨#[c]⟩])) h'' s.heap.objs.size (.tup [y, .str ⟨#[c]⟩]) :=
      ⟨by show 2 ≤ sizeLine; decide, [v1, .str ⟨#[c]⟩ u2], .cons ru (.cons ⟨_, rfl⟩ .nil), ⟨_, hT2, rfl, _, rfl⟩⟩
    have I1 : Inv X pins σ (upd H s.heap.objs.size (.tup [y, .str ⟨#[c]⟩])) { s with heap := h'', toks := tk } :=
      I.turnedNew (ch := [z, TI, TO, i1, i2]) (fun b o hb q => (sb.2 b (fun q' => hb (by simp [q']))).trans (hk b o (fun q' => hb (by simp [q'])) (fun q' => hb (by simp [q'])) (fun q' => hb (by simp [q'])) (fun q' => hb (by simp [q'])) q)) hf (Nat.le_refl _) new
    refine ⟨.ref s.heap.objs.size, _, I1, rfl, ⟨_, y, c, rfl, I.hok.fresh (Nat.le_refl _), rfl, fun l hl => by rw [I.tuple_inj hl hq]; exact hx, hcx⟩, ⟨z'', ?_, ⟨v1, .str ⟨#[c]⟩ u2, ?_⟩, ?_, ?_⟩, fun b hb => ?_⟩
    · exact (sb.2 _ D.TIz).trans (hk _ _ D.TIz D.TITO D.TIi1 D.TIi2 hTI)
    · exact (sb.2 _ D.TOz).trans TO'
    · exact st1.1.at fun o q => (sb.2 _ (Ne.symm D.zi1)).trans q
    · obtain ⟨o2, e2, r2⟩ := st2
      exact ⟨o2, (sb.2 _ (Ne.symm D.zi2)).trans e2, r2⟩
    · have hlt : b < s.heap.objs.size := by
        have e' : b = z ∨ b = TI ∨ b = TO ∨ b = i1 ∨ b = i2 := by simpa using hb
        rcases e' with q | q | q | q | q
        · rw [q]; exact hzl
        · rw [q]; exact Heap.lt_size hTI
        · rw [q]; exact Heap.lt_size hTO
        · rw [q]; obtain ⟨_, e1, _⟩ := h1; exact Heap.lt_size e1
        · rw [q]; obtain ⟨_, e1, _⟩ := h2; exact Heap.lt_size e1
      rw [upd_ne (Nat.ne_of_lt hlt)]
      exact (hf b hb).1
  done := by
    intro X hP hw hK hc i pins s σ H E I hf st hg
    subst hP hw hK
    obtain ⟨hz, hTI, ⟨y0, u0, hTO⟩, h1, h2⟩ := st
    obtain ⟨xs, hq, hl1, hl2, hend⟩ := hg
    obtain ⟨its, rv, p, _⟩ := I.tuple hq
    have p' : s.heap.IsTuple a its.toArray := p
    have l1 := rv.length
    have hh : X.A.in1.handled = none := I.ok.hd hc
    have e1 : its.toArray.size = xs.length := by rw [List.size_toArray]; omega
    refine wpAny_pyNext_zipD2_end D (Draws.tuple hh i1 a hne its.toArray) (Draws.text hh i2 x t) hz hTI hTO ⟨h1, p'⟩ h2 (by omega) hl2 (by rw [e1]; exact hend) fun h' tk hk => ⟨rfl, I.turnedL (t' := tk) (ch := [z, TI, TO, i1, i2]) (fun b o hb q =>
      hk b o (fun q' => hb (by simp [q'])) (fun q' => hb (by simp [q'])) (fun q' => hb (by simp [q'])) (fun q' => hb (by simp [q'])) q) hf⟩
  self := fun A i s Q E st h => wpAny_pyIter_zip st.1 h
def iZipS (K : PySem.W.Frag) (ta : TA) : TI := fun σ H R => ta σ H fun vs H1 => ∃ a xs x, vs = [.ref a, .str x] ∧ SqT K H1 a xs ∧ R (ItzS K a x) H1
theorem pi_zipS {X : Cx} {e e2 : Expr} {ta : TA} {p pos tpos : Pos} {elts : List Expr} {kk : Nat} (hg : Gl X "zip") (hm : X.mg "zip" = none) (ha : PA X [e, e2] ta)
    (hs : starEach [e, e2] X.env = (false, eval e X.env) :: starEach [e2] X.env := by rfl) (hpl : (backTo pos (starEach [e2] X.env)).any (·.1) = false := by rfl) :
    PI X (.Tuple elts kk tpos) (.Call (.Name "zip" p) [e, e2] [] pos) (iZipS X.K ta) := by
  refine ⟨fun pins s σ H R I h => ?_⟩
  refine Call_ (ld_blt I hg hm PyProof.Rows.boot_zip (PyProof.Rows.callWith_type1 (thn (ha.run pos pins s σ H _ I h) fun us s1 ⟨vs, H1, I1, r1, q1⟩ => ?_) hs hpl))
  obtain ⟨a, xs, x, ex, hq, q⟩ := q1
  subst ex
  cases r1 with
  | cons r rr =>
    cases rr with
    | cons r' rr =>
      cases rr
      cases r
      obtain ⟨t, rfl⟩ := r'
      obtain ⟨its, rv, p1, _⟩ := I1.tuple hq
      have p2 : s1.heap.IsTuple a its.toArray := p1
      have hal : a < s1.heap.objs.size := by
        obtain ⟨o, ho, _⟩ := id p2
        exact Heap.lt_size ho
      have fresh5 : ∀ c, c ∈ [s1.heap.objs.size + 4, s1.heap.objs.size + 2, s1.heap.objs.size + 3, s1.heap.objs.size, s1.heap.objs.size + 1] → FpOk X pins H1 c := fun c hcm => by
        have e' : c = s1.heap.objs.size + 4 ∨ c = s1.heap.objs.size + 2 ∨ c = s1.heap.objs.size + 3 ∨ c = s1.heap.objs.size ∨ c = s1.heap.objs.size + 1 := by simpa using hcm
        have hle : s1.heap.objs.size ≤ c := by
          rcases e' with z | z | z | z | z
          · rw [z]; exact Nat.le_add_right _ _
          · rw [z]; exact Nat.le_add_right _ _
          · rw [z]; exact Nat.le_add_right _ _
          · rw [z]; exact Nat.le_refl _
          · rw [z]; exact Nat.le_add_right _ _
        exact I1.fpOk hle (I1.hok.fresh hle)
      refine zip_begins2 (begins_tuple a its.toArray) (begins_text x t) p2 trivial fun h' hz hTI hTO h1 h2 hsz hk => wpAny_pyIter_zip hz ?_
      have I2 : Inv X pins σ H1 { s1 with heap := h' } := I1.kept (t' := s1.toks) hk
      exact ⟨s1.heap.objs.size + 4, [s1.heap.objs.size + 4, s1.heap.objs.size + 2, s1.heap.objs.size + 3, s1.heap.objs.size, s1.heap.objs.size + 1], _, _, H1, rfl, I2,
        turn_zipS (t := t) (Nat.ne_of_lt hal) (zip_sep2 (fp1 := [a]) (fp2 := []) (fun b hb => by rw [List.mem_singleton.mp hb]; exact hal) (fun b hb => nomatch hb)) (Nat.ne_of_lt (Nat.lt_of_lt_of_le hal (Nat.le_add_right _ _))) (Nat.ne_of_lt (Nat.lt_of_lt_of_le hal (Nat.le_add_right _ _))) (Nat.ne_of_lt (Nat.lt_of_lt_of_le hal (Nat.le_add_right _ _))),
        ⟨hz, hTI, ⟨_, _, hTO⟩, ⟨_, h1, rfl, rfl⟩, ⟨_, h2, rfl, rfl⟩⟩, fresh5, q⟩
end Cb

end

section
set_option maxRecDepth 100000
set_option maxHeartbeats 4000000
set_option autoImplicit false
/-! Pf, part A: a def as a plain function of data. The slots of a frame as data (SV), the relation to the heap (Rel), its steps. -/
namespace Cb
open PySem PySem.Spec PyProof.Rows L2
/-- what a slot holds: nothing known; a datum; a list of one's own; a list that came in and goes out; this very value, whatever it is -/
inductive SV where
  | un | d (x : PyData) | own (ds : List PyData) | par (ds : List PyData) | fix (v : V)
def SV.lst : SV → Option (List PyData)
  | .own ds => some ds | .par ds => some ds | _ => none
/-- all but lists and dicts stays -/
def KpN (H H' : Hp) : Prop := ∀ b o, H b = some o → hidable o = false → H' b = some o
theorem KpN.refl (H : Hp) : KpN H H := fun _ _ h _ => h
theorem KpN.trans {H H1 H2 : Hp} (a : KpN H H1) (b : KpN H1 H2) : KpN H H2 := fun x o h n => b x o (a x o h n) n
theorem KpN.same {H H' : Hp} (s : L2.Same H H') : KpN H H' := fun b o h _ => s b o h
theorem KpN.upd {H : Hp} {p : Addr} {o u : HO} (h : H p = some o) (ho : hidable o = true) : KpN H (upd H p u) := fun b w hb n => by
  have c : b ≠ p := fun z => by
    subst z
    rw [h] at hb
    cases hb
    rw [ho] at n
    cases n
  rw [upd_ne c]
  exact hb
/-- what is to be kept of the tables of code objects -/
class TabsC where
  tp : Hp → Prop
  up : ∀ {H H' : Hp}, tp H → KpN H H' → tp H'
theorem not_tbl {o : HO} (h : hidable o = true) : isTbl o = false := by
  cases o <;> first | rfl | cases h
/-- a def's entry: the lists that it may change (slot, address), the hidden addresses, the heap (without tables) -/
structure Sit where
  C : List (Nat × Addr)
  M0 : List Addr
  H0 : Hp
structure Sit.Ok (S : Sit) : Prop where
  al0 : ∀ a ∈ S.M0, ∃ o, S.H0 a = some o ∧ hidable o = true
  nt : ∀ b o, S.H0 b = some o → isTbl o = false
  cm : ∀ p ∈ S.C, p.2 ∈ S.M0
  cu : ∀ p ∈ S.C, ∀ q ∈ S.C, p.1 = q.1 → p.2 = q.2
def SlotOk (S : Sit) (M : List Addr) (σ : L2.St) (H : Hp) (i : Nat) : SV → Prop
  | .un => True
  | .fix v => σ[i]? = some (some v)
  | .d x => ∃ v, σ[i]? = some (some v) ∧ DA (Hid M H) v x
  | .own ds => ∃ a ys, σ[i]? = some (some (.ref a)) ∧ a ∈ M ∧ H a = some (.lst ys) ∧ DAll (Hid M H) ys ds ∧ S.H0 a = none
  | .par ds => ∃ a ys, σ[i]? = some (some (.ref a)) ∧ a ∈ M ∧ H a = some (.lst ys) ∧ DAll (Hid M H) ys ds ∧ (i, a) ∈ S.C
structure Rel [TC : TabsC] (S : Sit) (M : List Addr) (σ : L2.St) (H : Hp) (ρ : List SV) : Prop where
  ok : S.Ok
  len : σ.length = ρ.length
  sub : ∀ a ∈ S.M0, a ∈ M
  al : ∀ a ∈ M, ∃ o, H a = some o ∧ hidable o = true
  out : ∀ b o, (∀ i, (i, b) ∉ S.C) → S.H0 b = some o → H b = some o
  slots : ∀ (i : Nat) (s : SV), ρ[i]? = some s → SlotOk S M σ H i s
  inj : ∀ (i j : Nat) (s t : SV) (a : Addr), ρ[i]? = some s → ρ[j]? = some t → s.lst ≠ none → t.lst ≠ none → σ[i]? = some (some (.ref a)) → σ[j]? = some (some (.ref a)) → i = j
  pars : ∀ p ∈ S.C, ∃ ds, ρ[p.1]? = some (.par ds)
  tabs : TC.tp H
abbrev Vis (M : List Addr) (H : Hp) (M' : List Addr) (H' : Hp) : Prop := L2.Same (Hid M H) (Hid M' H')
theorem Vis.refl {M : List Addr} {H : Hp} : Vis M H M H := L2.Same.refl _
section
variable {S : Sit} {M M' : List Addr} {σ : L2.St} {H H' : Hp} {ρ : List SV}
theorem SlotOk.adr {i : Nat} {s : SV} (h : SlotOk S M σ H i s) (l : s.lst ≠ none) : ∃ a ys, σ[i]? = some (some (.ref a)) ∧ a ∈ M ∧ H a = some (.lst ys) := by
  cases s with
  | un => exact absurd rfl l
  | fix v => exact absurd rfl l
  | d x => exact absurd rfl l
  | own ds =>
    obtain ⟨a, ys, h1, h2, h3, _⟩ := h
    exact ⟨a, ys, h1, h2, h3⟩
  | par ds =>
    obtain ⟨a, ys, h1, h2, h3, _⟩ := h
    exact ⟨a, ys, h1, h2, h3⟩
/-- the heap moves, the slots' lists stay -/
theorem Rel.move [TC : TabsC] (R : Rel S M σ H ρ) (v : Vis M H M' H') (h0 : ∀ a ∈ S.M0, a ∈ M') (hal : ∀ a ∈ M', ∃ o, H' a = some o ∧ hidable o = true)
    (hout : ∀ b o, (∀ i, (i, b) ∉ S.C) → S.H0 b = some o → H' b = some o)
    (hl : ∀ (i : Nat) (s : SV) (a : Addr) (ys : List V), ρ[i]? = some s → s.lst ≠ none → σ[i]? = some (some (.ref a)) → H a = some (.lst ys) → a ∈ M' ∧ H' a = some (.lst ys)) (ht : TC.tp H') : Rel S M' σ H' ρ where
  ok := R.ok
  len := R.len
  sub := h0
  al := hal
  out := hout
  slots := fun i s e => by
    have h := R.slots i s e
    cases s with
    | un => trivial
    | fix v => exact h
    | d x =>
      obtain ⟨w, h1, h2⟩ := h
      exact ⟨w, h1, h2.same v⟩
    | own ds =>
      obtain ⟨a, ys, h1, h2, h3, h4, h5⟩ := h
      obtain ⟨k1, k2⟩ := hl i _ a ys e (fun z => nomatch z) h1 h3
      exact ⟨a, ys, h1, k1, k2, h4.same v, h5⟩
    | par ds =>
      obtain ⟨a, ys, h1, h2, h3, h4, h5⟩ := h
      obtain ⟨k1, k2⟩ := hl i _ a ys e (fun z => nomatch z) h1 h3
      exact ⟨a, ys, h1, k1, k2, h4.same v, h5⟩
  inj := R.inj
  pars := R.pars
  tabs := ht
/-- the heap grows, tables may -/
theorem Rel.growN [TC : TabsC] (R : Rel S M σ H ρ) (s : SameN H H') (ht : TC.tp H') : Rel S M σ H' ρ := by
  refine R.move (hid_sameN s) R.sub (fun a m => ?_) (fun b o n e => s _ _ (R.out b o n e) (R.ok.nt _ _ e)) (fun i t a ys e l h1 h2 => ⟨?_, s _ _ h2 rfl⟩) ht
  · obtain ⟨ys, e, ho⟩ := R.al a m
    exact ⟨ys, s _ _ e (not_tbl ho), ho⟩
  · obtain ⟨b, zs, k1, k2, k3⟩ := (R.slots i t e).adr l
    rw [h1] at k1
    cases k1
    exact k2
theorem same_n {H H' : Hp} (s : L2.Same H H') : SameN H H' := fun b o h _ => s b o h
/-- the heap grows -/
theorem Rel.grow [TC : TabsC] (R : Rel S M σ H ρ) (s : L2.Same H H') : Rel S M σ H' ρ := R.growN (same_n s) (TC.up R.tabs (.same s))
theorem Rel.freshN [TC : TabsC] (R : Rel S M σ H ρ) {p : Addr} (n : noT H p = none) : S.H0 p = none := by
  cases e : S.H0 p with
  | none => rfl
  | some o =>
    by_cases c : ∃ i, (i, p) ∈ S.C
    · obtain ⟨i, c⟩ := c
      obtain ⟨ys, e2, ho⟩ := R.al p (R.sub p (R.ok.cm _ c))
      exact (noT_none' n e2 (not_tbl ho)).elim
    · exact (noT_none' n (R.out p o (fun i z => c ⟨i, z⟩) e) (R.ok.nt _ _ e)).elim
theorem Rel.fresh [TC : TabsC] (R : Rel S M σ H ρ) {p : Addr} (n : H p = none) : S.H0 p = none := R.freshN (noT_none n)
theorem Rel.notSlotN [TC : TabsC] (R : Rel S M σ H ρ) {p : Addr} (n : noT H p = none) : ∀ (i : Nat) (s : SV), ρ[i]? = some s → s.lst ≠ none → σ[i]? ≠ some (some (.ref p)) := fun i s e l z => by
  obtain ⟨b, zs, k1, k2, k3⟩ := (R.slots i s e).adr l
  rw [z] at k1
  cases k1
  exact noT_none' n k3 rfl
theorem Rel.notSlot [TC : TabsC] (R : Rel S M σ H ρ) {p : Addr} (n : H p = none) : ∀ (i : Nat) (s : SV), ρ[i]? = some s → s.lst ≠ none → σ[i]? ≠ some (some (.ref p)) := R.notSlotN (noT_none n)
theorem hid_consN {M : List Addr} {H H' : Hp} {p : Addr} (s : SameN H H') (n : noT H p = none) : L2.Same (Hid M H) (Hid (p :: M) H') := fun b o h => by
  obtain ⟨h1, h2⟩ := hid_atT h
  obtain ⟨h1, h3⟩ := noT_at h1
  refine hid_of (s b o h1 h3) (fun e hm => ?_) h3
  rcases List.mem_cons.mp hm with z | z
  · subst z
    exact noT_none' n h1 h3
  · exact h2 e z
theorem hid_cons {M : List Addr} {H H' : Hp} {p : Addr} (s : L2.Same H H') (n : H p = none) : L2.Same (Hid M H) (Hid (p :: M) H') := hid_consN (same_n s) (noT_none n)
/-- a new list or dict, hidden -/
theorem Rel.newhN [TC : TabsC] (R : Rel S M σ H ρ) {p : Addr} {u : HO} (s : SameN H H') (ht : TC.tp H') (n : noT H p = none) (e : H' p = some u) (hu : hidable u = true) : Rel S (p :: M) σ H' ρ := by
  refine R.move (hid_consN s n) (fun a m => List.mem_cons_of_mem _ (R.sub a m)) (fun a m => ?_) (fun b o k h => s _ _ (R.out b o k h) (R.ok.nt _ _ h)) (fun i t a zs h l h1 h2 => ⟨?_, s _ _ h2 rfl⟩) ht
  · rcases List.mem_cons.mp m with z | z
    · subst z
      exact ⟨_, e, hu⟩
    · obtain ⟨zs, h, ho⟩ := R.al a z
      exact ⟨zs, s _ _ h (not_tbl ho), ho⟩
  · obtain ⟨b, zs, k1, k2, k3⟩ := (R.slots i t h).adr l
    rw [h1] at k1
    cases k1
    exact List.mem_cons_of_mem _ k2
theorem Rel.newh [TC : TabsC] (R : Rel S M σ H ρ) {p : Addr} {u : HO} (s : L2.Same H H') (n : H p = none) (e : H' p = some u) (hu : hidable u = true) : Rel S (p :: M) σ H' ρ := R.newhN (same_n s) (TC.up R.tabs (.same s)) (noT_none n) e hu
/-- a new list, hidden -/
theorem Rel.newl [TC : TabsC] (R : Rel S M σ H ρ) {p : Addr} {ys : List V} (s : L2.Same H H') (n : H p = none) (e : H' p = some (.lst ys)) : Rel S (p :: M) σ H' ρ := R.newh s n e rfl
/-- without p -/
def outOf (p : Addr) (M : List Addr) : List Addr := M.filter fun a => decide (a ≠ p)
theorem mem_outOf {p a : Addr} {M : List Addr} : a ∈ outOf p M ↔ a ∈ M ∧ a ≠ p := by
  unfold outOf
  rw [List.mem_filter, decide_eq_true_eq]
theorem vis_out {p : Addr} : Vis M H (outOf p M) H := hid_less fun x m => (mem_outOf.mp m).1
theorem not_out {p : Addr} : p ∉ outOf p M := fun m => (mem_outOf.mp m).2 rfl
/-- a hidden list that no slot holds is shown -/
theorem Rel.show [TC : TabsC] (R : Rel S M σ H ρ) {p : Addr} (n : S.H0 p = none) (ns : ∀ (i : Nat) (s : SV), ρ[i]? = some s → s.lst ≠ none → σ[i]? ≠ some (some (.ref p))) : Rel S (outOf p M) σ H ρ := by
  refine R.move vis_out (fun a m => mem_outOf.mpr ⟨R.sub a m, fun z => ?_⟩) (fun a m => R.al a (mem_outOf.mp m).1) R.out (fun i t a zs h l h1 h2 => ⟨mem_outOf.mpr ⟨?_, fun z => ?_⟩, h2⟩) R.tabs
  · subst z
    obtain ⟨ys, e, _⟩ := R.ok.al0 a m
    rw [n] at e
    cases e
  · obtain ⟨b, zs, k1, k2, k3⟩ := (R.slots i t h).adr l
    rw [h1] at k1
    cases k1
    exact k2
  · subst z
    exact ns i t h l h1
theorem get_set_self {α : Type} {l : List α} {i : Nat} {a : α} (h : i < l.length) : (l.set i a)[i]? = some a := List.getElem?_set_self h
theorem set_get {α : Type} {l : List α} {i j : Nat} {a b : α} (h : (l.set i a)[j]? = some b) : (j = i ∧ b = a) ∨ (j ≠ i ∧ l[j]? = some b) := by
  by_cases c : j = i
  · subst c
    left
    have hl : j < l.length := by
      rcases Nat.lt_or_ge j l.length with z | z
      · exact z
      · rw [List.getElem?_eq_none (by rw [List.length_set]; exact z)] at h
        cases h
    rw [List.getElem?_set_self hl] at h
    exact ⟨rfl, (Option.some.inj h).symm⟩
  · right
    rw [List.getElem?_set_ne (Ne.symm c)] at h
    exact ⟨c, h⟩
theorem DA.listOf {a : Addr} {ys : List V} {ds : List PyData} (n : a ∉ M) (e : H a = some (.lst ys)) (h : DAll (Hid M H) ys ds) : DA (Hid M H) (.ref a) (.list ds) := .lst (hid_lst e n) h
/-- a slot's content is told anew -/
theorem Rel.tell [TC : TabsC] (R : Rel S M σ H ρ) {i : Nat} {s t : SV} (e : ρ[i]? = some s) (np : ∀ ds, s ≠ .par ds) (h : SlotOk S M σ H i t) (nt : t.lst = none) : Rel S M σ H (ρ.set i t) where
  ok := R.ok
  len := by rw [List.length_set]; exact R.len
  sub := R.sub
  al := R.al
  out := R.out
  slots := fun j u h1 => by
    rcases set_get h1 with ⟨rfl, rfl⟩ | ⟨_, h2⟩
    · exact h
    · exact R.slots j u h2
  inj := fun j k s1 t1 a h1 h2 l1 l2 => by
    rcases set_get h1 with ⟨rfl, rfl⟩ | ⟨_, h3⟩
    · exact absurd nt l1
    rcases set_get h2 with ⟨rfl, rfl⟩ | ⟨_, h4⟩
    · exact absurd nt l2
    exact R.inj j k s1 t1 a h3 h4 l1 l2
  pars := fun p m => by
    obtain ⟨ds, h1⟩ := R.pars p m
    refine ⟨ds, ?_⟩
    rw [List.getElem?_set_ne ?_]
    · exact h1
    · intro z
      rw [← z, e] at h1
      cases h1
      exact np ds rfl
  tabs := R.tabs
/-- a list of one's own becomes a datum -/
theorem Rel.freeze [TC : TabsC] (R : Rel S M σ H ρ) {i : Nat} {ds : List PyData} (e : ρ[i]? = some (.own ds)) : ∃ p, σ[i]? = some (some (.ref p)) ∧ Rel S (outOf p M) σ H (ρ.set i (.d (.list ds))) ∧ DA (Hid (outOf p M) H) (.ref p) (.list ds) := by
  obtain ⟨a, ys, h1, h2, h3, h4, h6⟩ := R.slots i _ e
  have hd : DA (Hid (outOf a M) H) (.ref a) (.list ds) := DA.listOf not_out h3 (h4.same vis_out)
  have R1 : Rel S M σ H (ρ.set i .un) := R.tell e (fun ds z => nomatch z) trivial rfl
  have R2 : Rel S (outOf a M) σ H (ρ.set i .un) := by
    refine R1.show h6 fun j s g l z => ?_
    rcases set_get g with ⟨rfl, rfl⟩ | ⟨n, g2⟩
    · exact l rfl
    · exact n (R.inj j i s _ a g2 e l (fun z => nomatch z) z h1)
  have hi : i < ρ.length := (List.getElem?_eq_some_iff.mp e).1
  have R3 := R2.tell (t := .d (.list ds)) (get_set_self hi) (fun ds z => nomatch z) ⟨_, h1, hd⟩ rfl
  rw [List.set_set] at R3
  exact ⟨a, h1, R3, hd⟩
/-- a slot takes a datum -/
theorem Rel.put [TC : TabsC] (R : Rel S M σ H ρ) {i : Nat} {s : SV} {v : V} {x : PyData} (e : ρ[i]? = some s) (np : ∀ ds, s ≠ .par ds) (h : DA (Hid M H) v x) : Rel S M (σ.set i (some v)) H (ρ.set i (.d x)) where
  ok := R.ok
  len := by rw [List.length_set, List.length_set]; exact R.len
  sub := R.sub
  al := R.al
  out := R.out
  slots := fun j u h1 => by
    have hi : i < σ.length := by rw [R.len]; exact (List.getElem?_eq_some_iff.mp e).1
    rcases set_get h1 with ⟨rfl, rfl⟩ | ⟨n, h2⟩
    · exact ⟨v, get_set_self hi, h⟩
    · have g : (σ.set i (some v))[j]? = σ[j]? := List.getElem?_set_ne (Ne.symm n)
      have := R.slots j u h2
      cases u <;> first | exact this | (dsimp only [SlotOk] at this ⊢; rw [g]; exact this)
  inj := fun j k s1 t1 a h1 h2 l1 l2 g1 g2 => by
    rcases set_get h1 with ⟨rfl, rfl⟩ | ⟨n1, h3⟩
    · exact absurd rfl l1
    rcases set_get h2 with ⟨rfl, rfl⟩ | ⟨n2, h4⟩
    · exact absurd rfl l2
    rw [List.getElem?_set_ne (Ne.symm n1)] at g1
    rw [List.getElem?_set_ne (Ne.symm n2)] at g2
    exact R.inj j k s1 t1 a h3 h4 l1 l2 g1 g2
  pars := fun p m => by
    obtain ⟨ds, h1⟩ := R.pars p m
    refine ⟨ds, ?_⟩
    rw [List.getElem?_set_ne ?_]
    · exact h1
    · intro z
      rw [← z, e] at h1
      cases h1
      exact np ds rfl
  tabs := R.tabs
/-- a slot takes a new list as its own -/
theorem Rel.take [TC : TabsC] (R : Rel S M σ H ρ) {i : Nat} {s : SV} {p : Addr} {ys : List V} {ds : List PyData} (e : ρ[i]? = some s) (np : ∀ ds, s ≠ .par ds) (m : p ∈ M) (h : H p = some (.lst ys)) (hd : DAll (Hid M H) ys ds) (n0 : S.H0 p = none)
    (nsl : ∀ (i : Nat) (s : SV), ρ[i]? = some s → s.lst ≠ none → σ[i]? ≠ some (some (.ref p))) : Rel S M (σ.set i (some (.ref p))) H (ρ.set i (.own ds)) where
  ok := R.ok
  len := by rw [List.length_set, List.length_set]; exact R.len
  sub := R.sub
  al := R.al
  out := R.out
  slots := fun j u h1 => by
    have hi : i < σ.length := by rw [R.len]; exact (List.getElem?_eq_some_iff.mp e).1
    rcases set_get h1 with ⟨rfl, rfl⟩ | ⟨n, h2⟩
    · exact ⟨p, ys, get_set_self hi, m, h, hd, n0⟩
    · have g : (σ.set i (some (V.ref p)))[j]? = σ[j]? := List.getElem?_set_ne (Ne.symm n)
      have := R.slots j u h2
      cases u <;> first | exact this | (dsimp only [SlotOk] at this ⊢; rw [g]; exact this)
  inj := fun j k s1 t1 a h1 h2 l1 l2 g1 g2 => by
    have hi : i < σ.length := by rw [R.len]; exact (List.getElem?_eq_some_iff.mp e).1
    rcases set_get h1 with ⟨rfl, rfl⟩ | ⟨n1, h3⟩
    · rcases set_get h2 with ⟨rfl, rfl⟩ | ⟨n2, h4⟩
      · rfl
      · rw [get_set_self hi] at g1
        rw [List.getElem?_set_ne (Ne.symm n2)] at g2
        cases g1
        exact absurd g2 (nsl k t1 h4 l2)
    · rw [List.getElem?_set_ne (Ne.symm n1)] at g1
      rcases set_get h2 with ⟨rfl, rfl⟩ | ⟨n2, h4⟩
      · rw [get_set_self hi] at g2
        cases g2
        exact absurd g1 (nsl j s1 h3 l1)
      · rw [List.getElem?_set_ne (Ne.symm n2)] at g2
        exact R.inj j k s1 t1 a h3 h4 l1 l2 g1 g2
  pars := fun p m => by
    obtain ⟨ds, h1⟩ := R.pars p m
    refine ⟨ds, ?_⟩
    rw [List.getElem?_set_ne ?_]
    · exact h1
    · intro z
      rw [← z, e] at h1
      cases h1
      exact np ds rfl
  tabs := R.tabs
def SV.put : SV → List PyData → SV
  | .par _, ds => .par ds
  | _, ds => .own ds
theorem vis_upd {p : Addr} {ys : List V} {u : HO} (m : p ∈ M) (hl : H p = some (.lst ys)) : Vis M H M (upd H p u) := hid_upd m hl
/-- a slot's own list changes -/
theorem Rel.store [TC : TabsC] (R : Rel S M σ H ρ) {i : Nat} {s : SV} {ds es : List PyData} {p : Addr} {zs : List V} (e : ρ[i]? = some s) (l : s.lst = some ds) (g : σ[i]? = some (some (.ref p))) (hz : DAll (Hid M H) zs es) :
    Rel S M σ (upd H p (.lst zs)) (ρ.set i (s.put es)) ∧ Vis M H M (upd H p (.lst zs)) := by
  have ln : s.lst ≠ none := by rw [l]; exact fun z => nomatch z
  obtain ⟨a, ys, k1, k2, k3⟩ := (R.slots i s e).adr ln
  rw [g] at k1
  cases k1
  have hv : Vis M H M (upd H p (.lst zs)) := vis_upd k2 k3
  refine ⟨?_, hv⟩
  have hi : i < ρ.length := (List.getElem?_eq_some_iff.mp e).1
  exact {
    ok := R.ok
    len := by rw [List.length_set]; exact R.len
    sub := R.sub
    al := fun a m => by
      by_cases c : a = p
      · subst c
        exact ⟨_, upd_same, rfl⟩
      · rw [upd_ne c]
        exact R.al a m
    out := fun b o n h => by
      have c : b ≠ p := fun z => by
        subst z
        have h2 := R.slots i s e
        cases s with
        | un => cases l
        | fix v => cases l
        | d x => cases l
        | own es =>
          obtain ⟨a, ys, q1, _, _, _, q⟩ := h2
          rw [g] at q1
          cases q1
          rw [q] at h
          cases h
        | par es =>
          obtain ⟨a, ys, q1, _, _, _, q⟩ := h2
          rw [g] at q1
          cases q1
          exact n _ q
      rw [upd_ne c]
      exact R.out b o n h
    slots := fun j u h1 => by
      rcases set_get h1 with ⟨rfl, rfl⟩ | ⟨n, h2⟩
      · have h2 := R.slots j s e
        cases s with
        | un => cases l
        | fix v => cases l
        | d x => cases l
        | own es0 =>
          obtain ⟨a, ys0, q1, q2, q3, q4, q5⟩ := h2
          rw [g] at q1
          cases q1
          exact ⟨p, zs, g, k2, upd_same, hz.same hv, q5⟩
        | par es0 =>
          obtain ⟨a, ys0, q1, q2, q3, q4, q5⟩ := h2
          rw [g] at q1
          cases q1
          exact ⟨p, zs, g, k2, upd_same, hz.same hv, q5⟩
      · have h3 := R.slots j u h2
        have far : ∀ a, u.lst ≠ none → σ[j]? = some (some (.ref a)) → a ≠ p := fun a lu q z => by
          subst z
          exact n (R.inj j i u s a h2 e lu ln q g)
        cases u with
        | un => trivial
        | fix v => exact h3
        | d x =>
          obtain ⟨w, q1, q2⟩ := h3
          exact ⟨w, q1, q2.same hv⟩
        | own es0 =>
          obtain ⟨a, ys0, q1, q2, q3, q4, q5⟩ := h3
          exact ⟨a, ys0, q1, q2, by rw [upd_ne (far a (fun z => nomatch z) q1)]; exact q3, q4.same hv, q5⟩
        | par es0 =>
          obtain ⟨a, ys0, q1, q2, q3, q4, q5⟩ := h3
          exact ⟨a, ys0, q1, q2, by rw [upd_ne (far a (fun z => nomatch z) q1)]; exact q3, q4.same hv, q5⟩
    inj := fun j k s1 t1 a h1 h2 l1 l2 g1 g2 => by
      have back : ∀ (j : Nat) (s1 : SV), (ρ.set i (s.put es))[j]? = some s1 → s1.lst ≠ none → ∃ s2, ρ[j]? = some s2 ∧ s2.lst ≠ none := fun j s1 h l1 => by
        rcases set_get h with ⟨rfl, rfl⟩ | ⟨n, h2⟩
        · exact ⟨s, e, ln⟩
        · exact ⟨s1, h2, l1⟩
      obtain ⟨s2, b1, b2⟩ := back j s1 h1 l1
      obtain ⟨t2, b3, b4⟩ := back k t1 h2 l2
      exact R.inj j k s2 t2 a b1 b3 b2 b4 g1 g2
    pars := fun q m => by
      obtain ⟨ds0, h1⟩ := R.pars q m
      by_cases c : q.1 = i
      · rw [c, e] at h1
        cases h1
        exact ⟨es, by rw [c]; exact get_set_self hi⟩
      · exact ⟨ds0, by rw [List.getElem?_set_ne (Ne.symm c)]; exact h1⟩
    tabs := TC.up R.tabs (.upd k3 rfl) }
end
end Cb

end

section
set_option maxRecDepth 100000
set_option maxHeartbeats 4000000
set_option autoImplicit false
/-! Pf, part B: expressions as functions of the slots (OOk), argument lists (AOk), tests (TOk); the general rules. -/
namespace Cb
open PySem PySem.Spec PyProof.Rows L2
/-- a is no slot's list -/
def NS (σ : L2.St) (ρ : List SV) (a : Addr) : Prop := ∀ (i : Nat) (s : SV), ρ[i]? = some s → s.lst ≠ none → σ[i]? ≠ some (some (.ref a))
/-- a step from heap to heap: what is seen grows; hidden lists that no slot holds stay; no slot gets a list -/
structure Tr2 (σ : L2.St) (M : List Addr) (H : Hp) (ρ : List SV) (σ' : L2.St) (M' : List Addr) (H' : Hp) (ρ' : List SV) : Prop where
  vis : Vis M H M' H'
  kp : ∀ (a : Addr) (ys : HO), a ∈ M → H a = some ys → isTbl ys = false → NS σ ρ a → a ∈ M' ∧ H' a = some ys
  sl : ∀ a, NS σ ρ a → NS σ' ρ' a
  fr : ∀ a, noT H' a = none → noT H a = none
abbrev Tr (σ : L2.St) (M : List Addr) (H : Hp) (ρ : List SV) (M' : List Addr) (H' : Hp) (ρ' : List SV) : Prop := Tr2 σ M H ρ σ M' H' ρ'
theorem same_frN {H H' : Hp} (s : SameN H H') : ∀ a, noT H' a = none → noT H a = none := fun a n => by
  cases e : noT H a with
  | none => rfl
  | some o =>
    rw [noT_sameN s a o e] at n
    cases n
section
variable {σ σ1 σ2 : L2.St} {M M1 M2 : List Addr} {H H1 H2 : Hp} {ρ ρ1 ρ2 : List SV}
theorem Tr2.refl : Tr σ M H ρ M H ρ := ⟨Vis.refl, fun _ _ m e _ _ => ⟨m, e⟩, fun a n => n, fun _ n => n⟩
theorem Tr2.trans (a : Tr2 σ M H ρ σ1 M1 H1 ρ1) (b : Tr2 σ1 M1 H1 ρ1 σ2 M2 H2 ρ2) : Tr2 σ M H ρ σ2 M2 H2 ρ2 := by
  refine ⟨L2.Same.trans a.vis b.vis, fun p ys m e nt n => ?_, fun p n => b.sl p (a.sl p n), fun p n => a.fr p (b.fr p n)⟩
  obtain ⟨m1, e1⟩ := a.kp p ys m e nt n
  exact b.kp p ys m1 e1 nt (a.sl p n)
theorem Tr2.growN (s : SameN H H1) : Tr σ M H ρ M H1 ρ := ⟨hid_sameN s, fun _ _ m e nt _ => ⟨m, s _ _ e nt⟩, fun a n => n, same_frN s⟩
theorem Tr2.grow (s : L2.Same H H1) : Tr σ M H ρ M H1 ρ := Tr2.growN (same_n s)
theorem Tr2.newlN {p : Addr} (s : SameN H H1) (n : noT H p = none) : Tr σ M H ρ (p :: M) H1 ρ := ⟨hid_consN s n, fun _ _ m e nt _ => ⟨List.mem_cons_of_mem _ m, s _ _ e nt⟩, fun a n => n, same_frN s⟩
theorem Tr2.newl {p : Addr} (s : L2.Same H H1) (n : H p = none) : Tr σ M H ρ (p :: M) H1 ρ := Tr2.newlN (same_n s) (noT_none n)
/-- from H on, where p is new, p is shown -/
theorem Tr2.show {p : Addr} (t : Tr2 σ M H ρ σ1 M1 H1 ρ1) (n : noT H p = none) : Tr2 σ M H ρ σ1 (outOf p M1) H1 ρ1 := by
  refine ⟨L2.Same.trans t.vis vis_out, fun a ys m e nt h => ?_, t.sl, t.fr⟩
  obtain ⟨m1, e1⟩ := t.kp a ys m e nt h
  refine ⟨mem_outOf.mpr ⟨m1, fun z => ?_⟩, e1⟩
  subst z
  exact noT_none' n e nt
theorem NS.set {i : Nat} {t : SV} {a : Addr} (n : NS σ ρ a) (nt : t.lst = none) : NS σ (ρ.set i t) a := fun j u h l => by
  rcases set_get h with ⟨rfl, rfl⟩ | ⟨_, h2⟩
  · exact absurd nt l
  · exact n j u h2 l
/-- a slot's list is shown -/
theorem Tr2.froze {p : Addr} {i : Nat} {s t : SV} (e : ρ[i]? = some s) (l : s.lst ≠ none) (g : σ[i]? = some (some (.ref p))) (nt : t.lst = none) : Tr σ M H ρ (outOf p M) H (ρ.set i t) := ⟨vis_out, fun a ys m h _ n => ⟨mem_outOf.mpr ⟨m, fun z => by
  subst z
  exact n i s e l g⟩, h⟩, fun a n => n.set nt, fun _ n => n⟩
end
/-- a value: a datum; the list in a slot; a new list that nobody else holds; a written tuple of the module -/
inductive RV where
  | dat (x : PyData) | slot (i : Nat) | new (ds : List PyData) | cst (ds : List PyData)
def RVOk (K : PySem.W.Frag) (Hs : Hp) (M : List Addr) (σ : L2.St) (H : Hp) (ρ : List SV) (v : V) : RV → Prop
  | .dat x => DA (Hid M H) v x
  | .slot i => σ[i]? = some (some v)
  | .new ds => ∃ a ys, v = .ref a ∧ a ∈ M ∧ H a = some (.lst ys) ∧ DAll (Hid M H) ys ds ∧ noT Hs a = none ∧ ∀ (i : Nat) (s : SV), ρ[i]? = some s → s.lst ≠ none → σ[i]? ≠ some (some (.ref a))
  | .cst ds => ∃ a ys, v = .ref a ∧ (∀ H', SqT K H' a ys) ∧ ∀ H', DAll H' ys ds
abbrev FM (α : Type) := List SV → Option (α × List SV)
def fbind {α β : Type} (F : FM α) (G : α → FM β) : FM β := fun ρ => match F ρ with
  | some (a, ρ') => G a ρ'
  | none => none
def fpure {α : Type} (a : α) : FM α := fun ρ => some (a, ρ)
theorem fbind_some {α β : Type} {F : FM α} {G : α → FM β} {ρ ρ' : List SV} {b : β} (h : fbind F G ρ = some (b, ρ')) : ∃ a ρ1, F ρ = some (a, ρ1) ∧ G a ρ1 = some (b, ρ') := by
  unfold fbind at h
  split at h
  · rename_i a ρ1 e
    exact ⟨a, ρ1, e, h⟩
  · cases h
theorem fbind_eq {α β : Type} {F : FM α} {G : α → FM β} {ρ ρ1 : List SV} {a : α} (h : F ρ = some (a, ρ1)) : fbind F G ρ = G a ρ1 := by
  unfold fbind
  rw [h]
/-- an expression -/
def OOk [TC : TabsC] (X : Cx) (e : Expr) (F : FM RV) : Prop := ∃ t, PE X e t ∧ ∀ (S : Sit) (M : List Addr) (σ : L2.St) (H : Hp) (ρ : List SV) (r : RV) (ρ' : List SV), Rel S M σ H ρ → F ρ = some (r, ρ') →
  ∀ Q : VK, (∀ M' v H', Rel S M' σ H' ρ' → Tr σ M H ρ M' H' ρ' → RVOk X.K H M' σ H' ρ' v r → Q v H') → t σ H Q
/-- a test -/
def TOk [TC : TabsC] (X : Cx) (e : Expr) (F : FM Bool) : Prop := ∃ t, PT X e t ∧ ∀ (S : Sit) (M : List Addr) (σ : L2.St) (H : Hp) (ρ : List SV) (b : Bool) (ρ' : List SV), Rel S M σ H ρ → F ρ = some (b, ρ') →
  ∀ Q : Bool → Hp → Prop, (∀ M' H', Rel S M' σ H' ρ' → Tr σ M H ρ M' H' ρ' → Q b H') → t σ H Q
def WOk [TC : TabsC] (X : Cx) (e : Expr) (F : FM Bool) : Prop := ∃ t, PW X e t ∧ ∀ (S : Sit) (M : List Addr) (σ : L2.St) (H : Hp) (ρ : List SV) (b : Bool) (ρ' : List SV), Rel S M σ H ρ → F ρ = some (b, ρ') →
  ∀ Q : Bool → Hp → Prop, (∀ M' H', Rel S M' σ H' ρ' → Tr σ M H ρ M' H' ρ' → Q b H') → t σ H Q
inductive AllRV (K : PySem.W.Frag) (Hs : Hp) (M : List Addr) (σ : L2.St) (H : Hp) (ρ : List SV) : List V → List RV → Prop
  | nil : AllRV K Hs M σ H ρ [] []
  | cons {v : V} {vs : List V} {r : RV} {rs : List RV} : RVOk K Hs M σ H ρ v r → AllRV K Hs M σ H ρ vs rs → AllRV K Hs M σ H ρ (v :: vs) (r :: rs)
/-- an argument list -/
def AOk [TC : TabsC] (X : Cx) (es : List Expr) (F : FM (List RV)) : Prop := ∃ t, PA X es t ∧ ∀ (S : Sit) (M : List Addr) (σ : L2.St) (H : Hp) (ρ : List SV) (rs : List RV) (ρ' : List SV), Rel S M σ H ρ → F ρ = some (rs, ρ') →
  ∀ Q : List V → Hp → Prop, (∀ M' vs H', Rel S M' σ H' ρ' → Tr σ M H ρ M' H' ρ' → AllRV X.K H M' σ H' ρ' vs rs → Q vs H') → t σ H Q
section
variable {K : PySem.W.Frag} {S : Sit} {Hs : Hp} {M M' : List Addr} {σ : L2.St} {H H' : Hp} {ρ ρ' : List SV} {v : V}
theorem RVOk.keep {r : RV} (h : RVOk K Hs M σ H ρ v r) (s : Tr σ M H ρ M' H' ρ') : RVOk K Hs M' σ H' ρ' v r := by
  cases r with
  | dat x => exact DA.same h s.vis
  | slot i => exact h
  | new ds =>
    obtain ⟨a, ys, rfl, hm, hl, hd, hs, hn⟩ := h
    obtain ⟨k1, k2⟩ := s.kp a _ hm hl rfl hn
    exact ⟨a, ys, rfl, k1, k2, hd.same s.vis, hs, s.sl a hn⟩
  | cst ds => exact h
/-- seen from an earlier heap -/
theorem RVOk.back {r : RV} {H0 : Hp} (h : RVOk K Hs M σ H ρ v r) (s : ∀ a, noT Hs a = none → noT H0 a = none) : RVOk K H0 M σ H ρ v r := by
  cases r with
  | new ds =>
    obtain ⟨a, ys, rfl, hm, hl, hd, h0, hn⟩ := h
    exact ⟨a, ys, rfl, hm, hl, hd, s a h0, hn⟩
  | _ => exact h
theorem AllRV.keep (s : Tr σ M H ρ M' H' ρ') : ∀ {vs : List V} {rs : List RV}, AllRV K Hs M σ H ρ vs rs → AllRV K Hs M' σ H' ρ' vs rs
  | _, _, .nil => .nil
  | _, _, .cons h t => .cons (h.keep s) (AllRV.keep s t)
theorem AllRV.back {H0 : Hp} (s : ∀ a, noT Hs a = none → noT H0 a = none) : ∀ {vs : List V} {rs : List RV}, AllRV K Hs M σ H ρ vs rs → AllRV K H0 M σ H ρ vs rs
  | _, _, .nil => .nil
  | _, _, .cons h t => .cons (h.back s) (AllRV.back s t)
/-- a new list becomes a datum -/
theorem RVOk.freeze [TC : TabsC] {ds : List PyData} (R : Rel S M σ H ρ) (t : Tr σ M' Hs ρ' M H ρ) (R0 : Rel S M' σ Hs ρ') (h : RVOk K Hs M σ H ρ v (.new ds)) : ∃ M2, Rel S M2 σ H ρ ∧ Tr σ M' Hs ρ' M2 H ρ ∧ DA (Hid M2 H) v (.list ds) := by
  obtain ⟨a, ys, rfl, hm, hl, hd, hs, hn⟩ := h
  exact ⟨outOf a M, R.show (R0.freshN hs) hn, t.show hs, DA.listOf not_out hl (hd.same vis_out)⟩
/-- any value becomes a datum: a new list, a list of one's own, too -/
def toDat : RV → FM PyData
  | .new ds => fun ρ => some (.list ds, ρ)
  | .dat x => fun ρ => some (x, ρ)
  | .slot i => fun ρ => match ρ[i]? with
    | some (.d x) => some (x, ρ)
    | some (.own ds) => some (.list ds, ρ.set i (.d (.list ds)))
    | _ => none
  | .cst _ => fun _ => none
theorem toDat_ok [TC : TabsC] {ρ2 : List SV} {r : RV} {x : PyData} (R0 : Rel S M' σ Hs ρ') (t : Tr σ M' Hs ρ' M H ρ) (R : Rel S M σ H ρ) (hr : RVOk K Hs M σ H ρ v r) (h : toDat r ρ = some (x, ρ2)) : ∃ M2, Rel S M2 σ H ρ2 ∧ Tr σ M' Hs ρ' M2 H ρ2 ∧ DA (Hid M2 H) v x := by
  cases r with
  | new ds =>
    cases h
    exact hr.freeze R t R0
  | dat x =>
    cases h
    exact ⟨M, R, t, hr⟩
  | slot i =>
    unfold toDat at h
    dsimp only at h
    have hr : σ[i]? = some (some v) := hr
    split at h
    · rename_i x e
      cases h
      obtain ⟨w, h1, h2⟩ := R.slots i _ e
      rw [hr] at h1
      cases h1
      exact ⟨M, R, t, h2⟩
    · rename_i ds e
      cases h
      obtain ⟨p, h1, h2, h3⟩ := R.freeze e
      rw [hr] at h1
      cases h1
      exact ⟨_, h2, t.trans (Tr2.froze e (fun z => nomatch z) hr rfl), h3⟩
    · cases h
  | cst ds => cases h
def fDat (F : FM RV) : FM RV := fbind F fun r => fbind (toDat r) fun x => fpure (.dat x)
end
section
variable {X : Cx} {e e1 e2 e3 : Expr} {es : List Expr} {F G F3 : FM RV} {A : FM (List RV)} {B B2 : FM Bool} {pos : Pos}
theorem o_dat [TC : TabsC] (h : OOk X e F) : OOk X e (fDat F) := by
  obtain ⟨t, ht, hq⟩ := h
  refine ⟨t, ht, fun S M σ H ρ r ρ' R e Q q => ?_⟩
  obtain ⟨a, ρ1, h1, h2⟩ := fbind_some e
  obtain ⟨x, ρ2, h3, h4⟩ := fbind_some h2
  cases h4
  refine hq S M σ H ρ _ _ R h1 Q fun M' v H' R' s h => ?_
  obtain ⟨M2, k1, k2, k3⟩ := toDat_ok R s R' h h3
  exact q M2 v H' k1 k2 k3
/-! ### names and constants -/
def fName (i : Nat) : FM RV := fun ρ => match ρ[i]? with
  | some (.d x) => some (.dat x, ρ)
  | some (.own _) => some (.slot i, ρ)
  | some (.par _) => some (.slot i, ρ)
  | _ => none
theorem o_name [TC : TabsC] {i : Nat} (h : PE X e (tVar i)) : OOk X e (fName i) := by
  refine ⟨_, h, fun S M σ H ρ r ρ' R e Q q => ?_⟩
  unfold fName at e
  split at e
  · rename_i x e1
    cases e
    obtain ⟨v, h1, h2⟩ := R.slots i _ e1
    exact ⟨v, h1, q M v H R Tr2.refl h2⟩
  · rename_i ds e1
    cases e
    obtain ⟨a, ys, h1, _⟩ := R.slots i _ e1
    exact ⟨_, h1, q M _ H R Tr2.refl h1⟩
  · rename_i ds e1
    cases e
    obtain ⟨a, ys, h1, _⟩ := R.slots i _ e1
    exact ⟨_, h1, q M _ H R Tr2.refl h1⟩
  · cases e
/-- flat data -/
def flatD : V → Option PyData
  | .non => some .none | .bl b => some (.bool b) | .int i => some (.int i) | .str x => some (.str x) | _ => none
theorem flat_da {v : V} {x : PyData} {H : Hp} (h : flatD v = some x) : DA H v x := by
  cases v <;> cases h
  · exact .non
  · exact .bl _
  · exact .int _
  · exact .str _
def fC (x : PyData) : FM RV := fpure (.dat x)
theorem o_const [TC : TabsC] {v : V} {x : PyData} (h : PE X e (tC v)) (hf : flatD v = some x := by rfl) : OOk X e (fC x) := by
  refine ⟨_, h, fun S M σ H ρ r ρ' R e Q q => ?_⟩
  cases e
  exact q M v H R Tr2.refl (flat_da hf)
def flatDs : List V → Option (List PyData)
  | [] => some []
  | v :: vs => (flatD v).bind fun x => (flatDs vs).map fun xs => x :: xs
theorem flat_dall {H : Hp} : ∀ {vs : List V} {xs : List PyData}, flatDs vs = some xs → DAll H vs xs
  | [], xs, h => by
    cases h
    exact .nil
  | v :: vs, xs, h => by
    unfold flatDs at h
    cases e1 : flatD v with
    | none =>
      rw [e1] at h
      cases h
    | some x =>
      rw [e1] at h
      cases e2 : flatDs vs with
      | none =>
        rw [e2] at h
        cases h
      | some ys =>
        rw [e2] at h
        cases h
        exact .cons (flat_da e1) (flat_dall e2)
def fCst (ds : List PyData) : FM RV := fpure (.cst ds)
/-- a written tuple of the module -/
theorem o_cst [TC : TabsC] {xs : List V} {ds : List PyData} (h : PE X e (tGT X.K xs)) (hf : flatDs xs = some ds := by rfl) : OOk X e (fCst ds) := by
  refine ⟨_, h, fun S M σ H ρ r ρ' R e Q q => ?_⟩
  cases e
  exact fun a ha => q M _ H R Tr2.refl ⟨a, xs, rfl, ha, fun H' => flat_dall hf⟩
/-! ### what is seen of a value -/
/-- s: data alone (no written tuples of the module) -/
def view (s : Bool) (ρ : List SV) : RV → Option PyData
  | .dat x => some x
  | .slot i => match ρ[i]? with
    | some (.d x) => some x
    | some (.own ds) => some (.list ds)
    | some (.par ds) => some (.list ds)
    | _ => none
  | .cst ds => if s = true then none else some (.tuple ds)
  | .new ds => some (.list ds)
def VW (s : Bool) (K : PySem.W.Frag) (M : List Addr) (H : Hp) (v : V) : PyData → Prop
  | .list ds => ∃ a ys, v = .ref a ∧ H a = some (.lst ys) ∧ DAll (Hid M H) ys ds
  | .tuple ds => (∃ a ys, v = .ref a ∧ SqT K H a ys ∧ DAll (Hid M H) ys ds) ∧ (s = true → DA (Hid M H) v (.tuple ds))
  | x => DA (Hid M H) v x
section
variable {K : PySem.W.Frag} {S : Sit} {Hs : Hp} {M : List Addr} {σ : L2.St} {H : Hp} {ρ : List SV} {v : V} {s : Bool}
theorem DA.view {x : PyData} (h : DA (Hid M H) v x) : VW s K M H v x := by
  cases h with
  | non => exact .non
  | bl b => exact .bl b
  | int i => exact .int i
  | str x => exact .str x
  | lst h1 h3 => exact ⟨_, _, rfl, (hid_at h1).1, h3⟩
  | tup h1 h2 h3 => exact ⟨⟨_, _, rfl, h2.sq (hid_at h1).1, h3⟩, fun _ => .tup h1 h2 h3⟩
  | dk h hd => exact .dk h hd
theorem view_ok [TC : TabsC] {r : RV} {x : PyData} (R : Rel S M σ H ρ) (h : RVOk K Hs M σ H ρ v r) (e : view s ρ r = some x) : VW s K M H v x := by
  cases r with
  | dat y =>
    cases e
    exact DA.view h
  | slot i =>
    have h : σ[i]? = some (some v) := h
    unfold Cb.view at e
    dsimp only at e
    split at e
    · rename_i y e1
      cases e
      obtain ⟨w, h1, h2⟩ := R.slots i _ e1
      rw [h] at h1
      cases h1
      exact DA.view h2
    · rename_i ds e1
      cases e
      obtain ⟨a, ys, h1, _, h3, h4, _⟩ := R.slots i _ e1
      rw [h] at h1
      cases h1
      exact ⟨a, ys, rfl, h3, h4⟩
    · rename_i ds e1
      cases e
      obtain ⟨a, ys, h1, _, h3, h4, _⟩ := R.slots i _ e1
      rw [h] at h1
      cases h1
      exact ⟨a, ys, rfl, h3, h4⟩
    · cases e
  | cst ds =>
    cases s with
    | true => cases e
    | false =>
      cases e
      obtain ⟨a, ys, rfl, h1, h2⟩ := h
      exact ⟨⟨a, ys, rfl, h1 H, h2 _⟩, fun z => nomatch z⟩
  | new ds =>
    cases e
    obtain ⟨a, ys, rfl, _, h2, h3, _⟩ := h
    exact ⟨a, ys, rfl, h2, h3⟩
end
/-- what an operation gives: a list is a new one -/
def ResOk (M : List Addr) (H : Hp) (v : V) (H' : Hp) : PyData → Prop
  | .list zs => ∃ a ys, v = .ref a ∧ H a = none ∧ L2.Same H H' ∧ H' a = some (.lst ys) ∧ DAll (Hid (a :: M) H') ys zs
  | z => L2.Same H H' ∧ DA (Hid M H') v z
def resRV : PyData → RV
  | .list zs => .new zs
  | z => .dat z
theorem res_rv [TC : TabsC] {K : PySem.W.Frag} {S : Sit} {M M0 : List Addr} {σ : L2.St} {H H0 H' : Hp} {ρ ρ0 : List SV} {v : V} {z : PyData} (R : Rel S M σ H ρ) (t : Tr σ M0 H0 ρ0 M H ρ) (h : ResOk M H v H' z) :
    ∃ M', Rel S M' σ H' ρ ∧ Tr σ M0 H0 ρ0 M' H' ρ ∧ RVOk K H0 M' σ H' ρ v (resRV z) := by
  cases z with
  | list zs =>
    obtain ⟨a, ys, rfl, hn, hs, he, hd⟩ := h
    exact ⟨a :: M, R.newl hs hn he, t.trans (Tr2.newl hs hn), a, ys, rfl, List.mem_cons_self, he, hd, t.fr a (noT_none hn), R.notSlot hn⟩
  | _ => exact ⟨M, R.grow h.1, t.trans (Tr2.grow h.1), h.2⟩
/-- a two-place operation on what is seen -/
def Op2Ok (s : Bool) (X : Cx) (f : Value → Value → Sem Value) (g : PyData → PyData → Option PyData) : Prop := ∃ r : R2, OpR X f r ∧ ∀ (M : List Addr) (H : Hp) (x y : V) (dx dy z : PyData), VW s X.K M H x dx → VW s X.K M H y dy → g dx dy = some z →
  ∀ Q : VK, (∀ v H', ResOk M H v H' z → Q v H') → r x y H Q
def fOp2 (s : Bool) (g : PyData → PyData → Option PyData) (F G : FM RV) : FM RV := fbind F fun x => fbind G fun y => fun ρ => (view s ρ x).bind fun dx => (view s ρ y).bind fun dy => (g dx dy).map fun z => (resRV z, ρ)
theorem view2 {s : Bool} {ρ ρ' : List SV} {x y : RV} {g : PyData → PyData → Option PyData} {r : RV} (h : ((view s ρ x).bind fun dx => (view s ρ y).bind fun dy => (g dx dy).map fun z => (resRV z, ρ)) = some (r, ρ')) :
    ρ' = ρ ∧ ∃ dx dy z, view s ρ x = some dx ∧ view s ρ y = some dy ∧ g dx dy = some z ∧ r = resRV z := by
  cases e1 : view s ρ x with
  | none =>
    rw [e1] at h
    cases h
  | some dx =>
    rw [e1] at h
    cases e2 : view s ρ y with
    | none =>
      rw [e2] at h
      cases h
    | some dy =>
      rw [e2] at h
      cases e3 : g dx dy with
      | none =>
        have h : (g dx dy).map (fun z => (resRV z, ρ)) = some (r, ρ') := h
        rw [e3] at h
        cases h
      | some z =>
        have h : (g dx dy).map (fun z => (resRV z, ρ)) = some (r, ρ') := h
        rw [e3] at h
        cases h
        exact ⟨rfl, dx, dy, z, rfl, rfl, e3, rfl⟩
/-- the reading of an operation on two operands -/
theorem op2_read [TC : TabsC] {s : Bool} {r : R2} {g : PyData → PyData → Option PyData} (h1 : OOk X e1 F) (h2 : OOk X e2 G)
    (ho : ∀ (M : List Addr) (H : Hp) (x y : V) (dx dy z : PyData), VW s X.K M H x dx → VW s X.K M H y dy → g dx dy = some z → ∀ Q : VK, (∀ v H', ResOk M H v H' z → Q v H') → r x y H Q)
    (mk : ∀ t1 t2, PE X e1 t1 → PE X e2 t2 → PE X e (tOp r t1 t2)) : OOk X e (fOp2 s g F G) := by
  obtain ⟨t1, p1, q1⟩ := h1
  obtain ⟨t2, p2, q2⟩ := h2
  refine ⟨_, mk t1 t2 p1 p2, fun S M σ H ρ r ρ' R e Q q => ?_⟩
  obtain ⟨x, ρ1, ex, e⟩ := fbind_some e
  obtain ⟨y, ρ2, ey, e⟩ := fbind_some e
  obtain ⟨rfl, dx, dy, z, vx, vy, eg, rfl⟩ := view2 e
  refine q1 S M σ H ρ _ _ R ex _ fun M1 vx1 H1 R1 s1 k1 => ?_
  refine q2 S M1 σ H1 ρ1 _ _ R1 ey _ fun M2 vy1 H2 R2 s2 k2 => ?_
  refine ho M2 H2 vx1 vy1 dx dy z (view_ok R2 (k1.keep s2) vx) (view_ok R2 k2 vy) eg _ fun v H' hr => ?_
  obtain ⟨M', a1, a2, a3⟩ := res_rv (K := X.K) R2 (s1.trans s2) hr
  exact q M' v H' a1 a2 a3
theorem o_op2 [TC : TabsC] {s : Bool} {op : Operator} {g : PyData → PyData → Option PyData} (ho : Op2Ok s X (binaryOp op) g) (h1 : OOk X e1 F) (h2 : OOk X e2 G) : OOk X (.BinOp e1 op e2 pos) (fOp2 s g F G) := by
  obtain ⟨r, hr, hq⟩ := ho
  exact op2_read h1 h2 hq fun t1 t2 p1 p2 => pe_op hr p1 p2
theorem o_cmp [TC : TabsC] {s : Bool} {op : CmpOp} {g : PyData → PyData → Option PyData} (ho : Op2Ok s X (compareOp op) g) (h1 : OOk X e1 F) (h2 : OOk X e2 G) (hm : behindInMarks op e2 = false) : OOk X (.Compare e1 [op] [e2] pos) (fOp2 s g F G) := by
  obtain ⟨r, hr, hq⟩ := ho
  exact op2_read h1 h2 hq fun t1 t2 p1 p2 => pe_cmpR hr p1 p2 hm
def Ix2Ok (X : Cx) (g : PyData → PyData → Option PyData) : Prop := ∃ r : R2, IxR X r ∧ ∀ (M : List Addr) (H : Hp) (x y : V) (dx dy z : PyData), VW false X.K M H x dx → VW false X.K M H y dy → g dx dy = some z →
  ∀ Q : VK, (∀ v, DA (Hid M H) v z → Q v H) → r x y H Q
/-- an item: a datum that stands already -/
def fIx (g : PyData → PyData → Option PyData) (F G : FM RV) : FM RV := fbind F fun x => fbind G fun y => fun ρ => (view false ρ x).bind fun dx => (view false ρ y).bind fun dy => (g dx dy).map fun z => (.dat z, ρ)
theorem view2d {ρ ρ' : List SV} {x y : RV} {g : PyData → PyData → Option PyData} {r : RV} (h : ((view false ρ x).bind fun dx => (view false ρ y).bind fun dy => (g dx dy).map fun z => (RV.dat z, ρ)) = some (r, ρ')) :
    ρ' = ρ ∧ ∃ dx dy z, view false ρ x = some dx ∧ view false ρ y = some dy ∧ g dx dy = some z ∧ r = .dat z := by
  cases e1 : view false ρ x with
  | none =>
    rw [e1] at h
    cases h
  | some dx =>
    rw [e1] at h
    cases e2 : view false ρ y with
    | none =>
      rw [e2] at h
      cases h
    | some dy =>
      rw [e2] at h
      have h : (g dx dy).map (fun z => (RV.dat z, ρ)) = some (r, ρ') := h
      cases e3 : g dx dy with
      | none =>
        rw [e3] at h
        cases h
      | some z =>
        rw [e3] at h
        cases h
        exact ⟨rfl, dx, dy, z, rfl, rfl, e3, rfl⟩
theorem o_ix [TC : TabsC] {g : PyData → PyData → Option PyData} (ho : Ix2Ok X g) (h1 : OOk X e1 F) (h2 : OOk X e2 G) (hs : PlainIx e2) : OOk X (.Subscript e1 e2 pos) (fIx g F G) := by
  obtain ⟨r, hr, hq⟩ := ho
  obtain ⟨t1, p1, q1⟩ := h1
  obtain ⟨t2, p2, q2⟩ := h2
  refine ⟨_, pe_ix hr p1 p2 hs, fun S M σ H ρ r ρ' R e Q q => ?_⟩
  obtain ⟨x, ρ1, ex, e⟩ := fbind_some e
  obtain ⟨y, ρ2, ey, e⟩ := fbind_some e
  obtain ⟨rfl, dx, dy, z, vx, vy, eg, rfl⟩ := view2d e
  refine q1 S M σ H ρ _ _ R ex _ fun M1 vx1 H1 R1 s1 k1 => ?_
  refine q2 S M1 σ H1 ρ1 _ _ R1 ey _ fun M2 vy1 H2 R2 s2 k2 => ?_
  exact hq M2 H2 vx1 vy1 dx dy z (view_ok R2 (k1.keep s2) vx) (view_ok R2 k2 vy) eg _ fun v hv => q M2 v H2 R2 (s1.trans s2) hv
/-! ### argument lists -/
def fNil : FM (List RV) := fpure []
def fCons (F : FM RV) (A : FM (List RV)) : FM (List RV) := fbind F fun x => fbind A fun xs => fpure (x :: xs)
theorem a_nil [TC : TabsC] : AOk X [] fNil := by
  refine ⟨_, pa_nil, fun S M σ H ρ r ρ' R e Q q => ?_⟩
  cases e
  exact q M [] H R Tr2.refl .nil
/-- an argument as it is -/
theorem a_cons [TC : TabsC] (h : OOk X e F) (ha : AOk X es A) (hs : starEach (e :: es) X.env = (false, eval e X.env) :: starEach es X.env := by rfl) : AOk X (e :: es) (fCons F A) := by
  obtain ⟨t1, p1, q1⟩ := h
  obtain ⟨t2, p2, q2⟩ := ha
  refine ⟨_, pa_cons p1 p2 hs, fun S M σ H ρ r ρ' R e Q q => ?_⟩
  obtain ⟨x, ρ1, ex, e⟩ := fbind_some e
  obtain ⟨xs, ρ2, ey, e⟩ := fbind_some e
  cases e
  refine q1 S M σ H ρ _ _ R ex _ fun M1 vx1 H1 R1 s1 k1 => ?_
  refine q2 S M1 σ H1 ρ1 _ _ R1 ey _ fun M2 vy1 H2 R2 s2 k2 => ?_
  exact q M2 _ H2 R2 (s1.trans s2) (.cons (k1.keep s2) (k2.back s1.fr))
/-- an argument as a datum -/
theorem a_consD [TC : TabsC] (h : OOk X e F) (ha : AOk X es A) (hs : starEach (e :: es) X.env = (false, eval e X.env) :: starEach es X.env := by rfl) : AOk X (e :: es) (fCons (fDat F) A) := a_cons (o_dat h) ha hs
def dats : List RV → Option (List PyData)
  | [] => some []
  | .dat x :: r => (dats r).map fun xs => x :: xs
  | _ => none
theorem dats_ok {K : PySem.W.Frag} {Hs : Hp} {M : List Addr} {σ : L2.St} {H : Hp} {ρ : List SV} : ∀ {vs : List V} {rs : List RV} {ds : List PyData}, AllRV K Hs M σ H ρ vs rs → dats rs = some ds → DAll (Hid M H) vs ds
  | _, _, ds, .nil, e => by
    cases e
    exact .nil
  | _, _, ds, .cons (r := r) h t, e => by
    cases r with
    | dat x =>
      unfold dats at e
      rename_i vs rs
      cases e2 : dats rs with
      | none =>
        rw [e2] at e
        cases e
      | some xs =>
        rw [e2] at e
        cases e
        exact .cons h (dats_ok t e2)
    | _ => cases e
/-- a tuple of data -/
def fTup (A : FM (List RV)) : FM RV := fbind A fun rs => fun ρ => (dats rs).bind fun ds => if ds.length ≤ 4000000 then some (.dat (.tuple ds), ρ) else none
theorem o_tup [TC : TabsC] {x1 : Nat} (h : AOk X es A) : OOk X (.Tuple es x1 pos) (fTup A) := by
  obtain ⟨t, p, hq⟩ := h
  refine ⟨_, pe_tupF p, fun S M σ H ρ r ρ' R e Q q => ?_⟩
  obtain ⟨rs, ρ1, ex, e⟩ := fbind_some e
  cases e2 : dats rs with
  | none =>
    rw [e2] at e
    cases e
  | some ds =>
    rw [e2] at e
    by_cases c : ds.length ≤ 4000000
    · have e : some (RV.dat (.tuple ds), ρ1) = some (r, ρ') := by
        rw [← e]
        exact (if_pos c).symm
      cases e
      refine hq S M σ H ρ _ _ R ex _ fun M1 vs H1 R1 s1 k1 => ?_
      have hd := dats_ok k1 e2
      refine ⟨by rw [hd.length]; exact Nat.le_trans c (by decide), fun p u hu hn => ?_⟩
      have sm := same_upd (o := u) hn
      refine q M1 _ _ (R1.grow sm) (s1.trans (Tr2.grow sm)) ?_
      exact .tup (hid_tup upd_same hu) hu (hd.same (hid_same sm))
    · have e : (none : Option (RV × List SV)) = some (r, ρ') := by
        rw [← e]
        exact (if_neg c).symm
      cases e
/-- a list of data, new -/
def fLst (A : FM (List RV)) : FM RV := fbind A fun rs => fun ρ => (dats rs).bind fun ds => if ds.length ≤ 4000000 then some (.new ds, ρ) else none
theorem o_lst [TC : TabsC] (h : AOk X es A) : OOk X (.List es pos) (fLst A) := by
  obtain ⟨t, p, hq⟩ := h
  refine ⟨_, pe_lst p, fun S M σ H ρ r ρ' R e Q q => ?_⟩
  obtain ⟨rs, ρ1, ex, e⟩ := fbind_some e
  cases e2 : dats rs with
  | none =>
    rw [e2] at e
    cases e
  | some ds =>
    rw [e2] at e
    by_cases c : ds.length ≤ 4000000
    · have e : some (RV.new ds, ρ1) = some (r, ρ') := by
        rw [← e]
        exact (if_pos c).symm
      cases e
      refine hq S M σ H ρ _ _ R ex _ fun M1 vs H1 R1 s1 k1 => ?_
      have hd := dats_ok k1 e2
      refine ⟨by rw [hd.length]; exact Nat.le_trans c (by decide), fun p hn => ?_⟩
      have sm := same_upd (o := .lst vs) hn
      obtain ⟨M', a1, a2, a3⟩ := res_rv (K := X.K) (z := .list ds) R1 s1 ⟨p, vs, rfl, hn, sm, upd_same, hd.same (hid_cons sm hn)⟩
      exact q M' _ _ a1 a2 a3
    · have e : (none : Option (RV × List SV)) = some (r, ρ') := by
        rw [← e]
        exact (if_neg c).symm
      cases e
/-! ### calls of what is built in -/
inductive AllVW (s : Bool) (K : PySem.W.Frag) (M : List Addr) (H : Hp) : List V → List PyData → Prop
  | nil : AllVW s K M H [] []
  | cons {v : V} {vs : List V} {d : PyData} {ds : List PyData} : VW s K M H v d → AllVW s K M H vs ds → AllVW s K M H (v :: vs) (d :: ds)
def views (s : Bool) (ρ : List SV) : List RV → Option (List PyData)
  | [] => some []
  | r :: rs => (view s ρ r).bind fun x => (views s ρ rs).map fun xs => x :: xs
theorem views_ok [TC : TabsC] {s : Bool} {K : PySem.W.Frag} {S : Sit} {Hs : Hp} {M : List Addr} {σ : L2.St} {H : Hp} {ρ : List SV} (R : Rel S M σ H ρ) : ∀ {vs : List V} {rs : List RV} {ds : List PyData}, AllRV K Hs M σ H ρ vs rs → views s ρ rs = some ds → AllVW s K M H vs ds
  | _, _, ds, .nil, e => by
    cases e
    exact .nil
  | _, _, ds, .cons (r := r) (rs := rs) h t, e => by
    unfold views at e
    cases e1 : view s ρ r with
    | none =>
      rw [e1] at e
      cases e
    | some x =>
      rw [e1] at e
      cases e2 : views s ρ rs with
      | none =>
        rw [e2] at e
        cases e
      | some xs =>
        rw [e2] at e
        cases e
        exact .cons (view_ok R h e1) (views_ok R t e2)
def CallOk (s : Bool) (X : Cx) (f : Value) (g : List PyData → Option PyData) : Prop := ∃ r : List V → Hp → VK → Prop, CallR X f r ∧ ∀ (M : List Addr) (H : Hp) (vs : List V) (ds : List PyData) (z : PyData), AllVW s X.K M H vs ds → g ds = some z →
  ∀ Q : VK, (∀ v H', ResOk M H v H' z → Q v H') → r vs H Q
def fCall (s : Bool) (g : List PyData → Option PyData) (A : FM (List RV)) : FM RV := fbind A fun rs => fun ρ => (views s ρ rs).bind fun ds => (g ds).map fun z => (resRV z, ρ)
theorem viewsd {s : Bool} {ρ ρ' : List SV} {rs : List RV} {g : List PyData → Option PyData} {r : RV} (h : ((views s ρ rs).bind fun ds => (g ds).map fun z => (resRV z, ρ)) = some (r, ρ')) :
    ρ' = ρ ∧ ∃ ds z, views s ρ rs = some ds ∧ g ds = some z ∧ r = resRV z := by
  cases e1 : views s ρ rs with
  | none =>
    rw [e1] at h
    cases h
  | some ds =>
    rw [e1] at h
    have h : (g ds).map (fun z => (resRV z, ρ)) = some (r, ρ') := h
    cases e3 : g ds with
    | none =>
      rw [e3] at h
      cases h
    | some z =>
      rw [e3] at h
      cases h
      exact ⟨rfl, ds, z, rfl, e3, rfl⟩
theorem call_read [TC : TabsC] {s : Bool} {r : List V → Hp → VK → Prop} {g : List PyData → Option PyData} (h : AOk X es A)
    (ho : ∀ (M : List Addr) (H : Hp) (vs : List V) (ds : List PyData) (z : PyData), AllVW s X.K M H vs ds → g ds = some z → ∀ Q : VK, (∀ v H', ResOk M H v H' z → Q v H') → r vs H Q)
    (mk : ∀ t, PA X es t → PE X e (tCB r t)) : OOk X e (fCall s g A) := by
  obtain ⟨t, p, hq⟩ := h
  refine ⟨_, mk t p, fun S M σ H ρ r ρ' R e Q q => ?_⟩
  obtain ⟨rs, ρ1, ex, e⟩ := fbind_some e
  obtain ⟨rfl, ds, z, ev, eg, rfl⟩ := viewsd e
  refine hq S M σ H ρ _ _ R ex _ fun M1 vs H1 R1 s1 k1 => ?_
  refine ho M1 H1 vs ds z (views_ok R1 k1 ev) eg _ fun v H' hr => ?_
  obtain ⟨M', a1, a2, a3⟩ := res_rv (K := X.K) R1 s1 hr
  exact q M' v H' a1 a2 a3
theorem o_callB [TC : TabsC] {s : Bool} {x : Str} {p : Pos} {id : String} {g : List PyData → Option PyData} (ho : CallOk s X (.builtin id) g) (hg : Gl X x) (hm : X.mg x = none) (hv : bootBuiltins x = some (.builtin id)) (ha : AOk X (e :: es) A) (hn : x ≠ "__name__" := by decide) (hdb : (x == ("__debug__" : Str)) = false := by decide)
    (he : starEach (e :: es) X.env = (false, eval e X.env) :: starEach es X.env := by rfl) (hpl : (backTo pos (starEach es X.env)).any (·.1) = false := by rfl) : OOk X (.Call (.Name x p) (e :: es) [] pos) (fCall s g A) := by
  obtain ⟨r, hr, hq⟩ := ho
  exact call_read ha hq fun t pt => pe_callB hr hg hm hv pt hn hdb he hpl
theorem o_callTy [TC : TabsC] {s : Bool} {x : Str} {p : Pos} {T : String} {g : List PyData → Option PyData} (ho : CallOk s X (.type T) g) (hg : Gl X x) (hm : X.mg x = none) (hv : bootBuiltins x = some (.type T)) (ha : AOk X (e :: es) A) (hn : x ≠ "__name__" := by decide) (hdb : (x == ("__debug__" : Str)) = false := by decide)
    (he : starEach (e :: es) X.env = (false, eval e X.env) :: starEach es X.env := by rfl) (hpl : (backTo pos (starEach es X.env)).any (·.1) = false := by rfl) : OOk X (.Call (.Name x p) (e :: es) [] pos) (fCall s g A) := by
  obtain ⟨r, hr, hq⟩ := ho
  exact call_read ha hq fun t pt => pe_callTy hr hg hm hv pt hn hdb he hpl
/-! ### isinstance(e, T) -/
theorem tupTy {K : PySem.W.Frag} {H : Hp} {a : Addr} {xs : List V} (h : SqT K H a xs) : TyX K H (.ref a) (.type "tuple") := by
  rcases h with (h | ⟨o, h⟩) | ⟨o, its, n, h, hc, _⟩
  · exact .base (.tup h)
  · exact .fTuple h
  · exact .kTuple h hc
theorem VW.ty {K : PySem.W.Frag} {M : List Addr} {H : Hp} {v : V} {d : PyData} (h : VW false K M H v d) : TyX K H v (.type (tyN d)) := by
  cases d with
  | list ds =>
    obtain ⟨a, ys, rfl, h1, _⟩ := h
    exact .base (.lst h1)
  | tuple ds =>
    obtain ⟨⟨a, ys, rfl, h1, _⟩, _⟩ := h
    exact tupTy h1
  | _ => exact DA.ty (DA.same h hid_sub)
def rIsiV (K : PySem.W.Frag) (f : PyData → Bool) (T : String) : List V → Hp → VK → Prop := fun vs H Q => ∃ (v : V) (d : PyData), vs = [v, .ty T] ∧ TyX K H v (.type (tyN d)) ∧ Q (.bl (f d)) H
theorem call_isiV {X : Cx} {f : PyData → Bool} {T : String} (hT : ∀ d, kitB (tyN d) T = some (f d)) : CallR X (.builtin "isinstance") (rIsiV X.K f T) := by
  intro pins s σ H xs us Q I r h
  obtain ⟨v, d, rfl, hd, q⟩ := h
  exact call_isi pins s σ H _ us Q I r ⟨v, .ty T, _, _, _, rfl, .ty T, hd, kit_ty (hT d), q⟩
def fIsi (f : PyData → Bool) (F : FM RV) : FM RV := fbind F fun x => fun ρ => (view false ρ x).map fun dx => (.dat (.bool (f dx)), ρ)
theorem o_isi [TC : TabsC] {x y : Str} {p p2 : Pos} {f : PyData → Bool} {T : String} (hT : ∀ d, kitB (tyN d) T = some (f d)) (h1 : OOk X e1 F) (hg : Gl X x) (hm : X.mg x = none) (hv : bootBuiltins x = some (.builtin "isinstance")) (h2 : PE X (.Name y p2) (tC (.ty T)))
    (hn : x ≠ "__name__" := by decide) (hdb : (x == ("__debug__" : Str)) = false := by decide)
    (he : starEach (e1 :: [.Name y p2]) X.env = (false, eval e1 X.env) :: starEach [.Name y p2] X.env := by rfl) (hpl : (backTo pos (starEach [.Name y p2] X.env)).any (·.1) = false := by rfl)
    (he2 : starEach (.Name y p2 :: []) X.env = (false, eval (.Name y p2) X.env) :: starEach [] X.env := by rfl) : OOk X (.Call (.Name x p) (e1 :: [.Name y p2]) [] pos) (fIsi f F) := by
  obtain ⟨t1, p1, q1⟩ := h1
  refine ⟨_, pe_callB (call_isiV hT) hg hm hv (pa_cons p1 (pa_cons h2 pa_nil he2) he) hn hdb he hpl, fun S M σ H ρ r ρ' R e Q q => ?_⟩
  obtain ⟨a, ρ1, ex, e⟩ := fbind_some e
  cases ev : view false ρ1 a with
  | none =>
    rw [ev] at e
    cases e
  | some dx =>
    rw [ev] at e
    cases e
    refine q1 S M σ H ρ _ _ R ex _ fun M1 v H1 R1 s1 k1 => ?_
    exact ⟨v, dx, rfl, (view_ok R1 k1 ev).ty, q M1 _ H1 R1 s1 (.bl _)⟩
end
end Cb

end

section
set_option maxRecDepth 100000
set_option maxHeartbeats 4000000
set_option autoImplicit false
/-! Pf, part C: tests, and/or/not, choices, chains; slices. -/
namespace Cb
open PySem PySem.Spec PyProof.Rows L2
section
variable {X : Cx} {e e1 e2 e3 : Expr} {es : List Expr} {F G F3 : FM RV} {A : FM (List RV)} {B B2 : FM Bool} {pos : Pos}
/-! ### truth -/
def truthD : PyData → Option Bool
  | .none => some false
  | .bool b => some b
  | .int i => some (i != 0)
  | .str x => if x.length ≤ 4000000 then some ((x.length : Int) != 0) else none
  | .list ds => some (!ds.isEmpty)
  | .tuple ds => some (!ds.isEmpty)
  | .dict _ => none
theorem dall_emp {H : Hp} {ys : List V} {ds : List PyData} (h : DAll H ys ds) : ys.isEmpty = ds.isEmpty := by
  cases h <;> rfl
theorem tru_v {K : PySem.W.Frag} {M : List Addr} {H : Hp} {v : V} {d : PyData} {b : Bool} (h : VW false K M H v d) (e : truthD d = some b) : TruV K v H b := by
  cases d with
  | none =>
    cases e
    cases h
    rfl
  | bool c =>
    cases e
    cases h
    rfl
  | int i =>
    cases e
    cases h
    rfl
  | str x =>
    cases h
    have e : (if x.length ≤ 4000000 then some ((x.length : Int) != 0) else none) = some b := e
    by_cases c : x.length ≤ 4000000
    · rw [if_pos c] at e
      cases e
      exact ⟨Nat.le_trans (m := 4000000) c (by decide), rfl⟩
    · rw [if_neg c] at e
      cases e
  | list ds =>
    cases e
    obtain ⟨a, ys, rfl, h1, h2⟩ := h
    exact .inl ⟨ys, .inl (.inl h1), by rw [dall_emp h2]⟩
  | tuple ds =>
    cases e
    obtain ⟨⟨a, ys, rfl, h1, h2⟩, _⟩ := h
    exact .inr (.inl ⟨ys, h1, by rw [dall_emp h2]⟩)
  | dict _ => cases e
def fTru (F : FM RV) : FM Bool := fbind F fun x => fun ρ => (view false ρ x).bind fun dx => (truthD dx).map fun b => (b, ρ)
theorem viewT {ρ ρ' : List SV} {x : RV} {g : PyData → Option Bool} {b : Bool} (h : ((view false ρ x).bind fun dx => (g dx).map fun z => (z, ρ)) = some (b, ρ')) : ρ' = ρ ∧ ∃ dx, view false ρ x = some dx ∧ g dx = some b := by
  cases e1 : view false ρ x with
  | none =>
    rw [e1] at h
    cases h
  | some dx =>
    rw [e1] at h
    have h : (g dx).map (fun z => (z, ρ)) = some (b, ρ') := h
    cases e3 : g dx with
    | none =>
      rw [e3] at h
      cases h
    | some z =>
      rw [e3] at h
      cases h
      exact ⟨rfl, dx, rfl, e3⟩
theorem t_truth [TC : TabsC] (h : OOk X e F) (he : ∀ whole, isTrue e X.env whole = (do let v ← whole; standAt e.pos; holding [v] (truthy v)) := by intro _; rfl) : TOk X e (fTru F) := by
  obtain ⟨t1, p1, q1⟩ := h
  refine ⟨_, pt_truth p1 he, fun S M σ H ρ r ρ' R e Q q => ?_⟩
  obtain ⟨x, ρ1, ex, e⟩ := fbind_some e
  obtain ⟨rfl, dx, vx, eg⟩ := viewT e
  refine q1 S M σ H ρ _ _ R ex _ fun M1 v H1 R1 s1 k1 => ?_
  exact ⟨_, tru_v (view_ok R1 k1 vx) eg, q M1 H1 R1 s1⟩
/-! ### a comparison as a test -/
def boolD : PyData → Option Bool
  | .bool b => some b
  | _ => none
def fCmp (g : PyData → PyData → Option PyData) (F G : FM RV) : FM Bool := fbind F fun x => fbind G fun y => fun ρ => (view false ρ x).bind fun dx => (view false ρ y).bind fun dy => ((g dx dy).bind boolD).map fun z => (z, ρ)
theorem view2T {ρ ρ' : List SV} {x y : RV} {g : PyData → PyData → Option PyData} {b : Bool} (h : ((view false ρ x).bind fun dx => (view false ρ y).bind fun dy => ((g dx dy).bind boolD).map fun z => (z, ρ)) = some (b, ρ')) :
    ρ' = ρ ∧ ∃ dx dy, view false ρ x = some dx ∧ view false ρ y = some dy ∧ g dx dy = some (.bool b) := by
  cases e1 : view false ρ x with
  | none =>
    rw [e1] at h
    cases h
  | some dx =>
    rw [e1] at h
    cases e2 : view false ρ y with
    | none =>
      rw [e2] at h
      cases h
    | some dy =>
      rw [e2] at h
      have h : ((g dx dy).bind boolD).map (fun z => (z, ρ)) = some (b, ρ') := h
      cases e3 : g dx dy with
      | none =>
        rw [e3] at h
        cases h
      | some z =>
        rw [e3] at h
        cases z with
        | bool c =>
          cases h
          exact ⟨rfl, dx, dy, rfl, rfl, e3⟩
        | _ => cases h
theorem t_cmp [TC : TabsC] {op : CmpOp} {g : PyData → PyData → Option PyData} (ho : Op2Ok false X (compareOp op) g) (h1 : OOk X e1 F) (h2 : OOk X e2 G) (hm : behindInMarks op e2 = false) : TOk X (.Compare e1 [op] [e2] pos) (fCmp g F G) := by
  obtain ⟨r, hr, hq⟩ := ho
  obtain ⟨t1, p1, q1⟩ := h1
  obtain ⟨t2, p2, q2⟩ := h2
  refine ⟨_, pt_cmpR hr p1 p2 hm, fun S M σ H ρ b ρ' R e Q q => ?_⟩
  obtain ⟨x, ρ1, ex, e⟩ := fbind_some e
  obtain ⟨y, ρ2, ey, e⟩ := fbind_some e
  obtain ⟨rfl, dx, dy, vx, vy, eg⟩ := view2T e
  refine q1 S M σ H ρ _ _ R ex _ fun M1 vx1 H1 R1 s1 k1 => ?_
  refine q2 S M1 σ H1 ρ1 _ _ R1 ey _ fun M2 vy1 H2 R2 s2 k2 => ?_
  refine hq M2 H2 vx1 vy1 dx dy _ (view_ok R2 (k1.keep s2) vx) (view_ok R2 k2 vy) eg _ fun v H' hr => ?_
  obtain ⟨k, hk⟩ := hr
  cases hk
  exact ⟨_, rfl, q M2 H' (R2.grow k) ((s1.trans s2).trans (Tr2.grow k))⟩
/-! ### a op b op c -/
def fChain (g g' : PyData → PyData → Option PyData) (F G F3 : FM RV) : FM Bool := fbind F fun x => fbind G fun y => fun ρ => match (view false ρ x).bind fun dx => (view false ρ y).bind fun dy => (g dx dy).bind boolD with
  | some true => fbind F3 (fun z => fun ρ => (view false ρ y).bind fun dy => (view false ρ z).bind fun dz => ((g' dy dz).bind boolD).map fun b => (b, ρ)) ρ
  | some false => some (false, ρ)
  | none => none
theorem view2B {ρ : List SV} {x y : RV} {g : PyData → PyData → Option PyData} {b : Bool} (h : ((view false ρ x).bind fun dx => (view false ρ y).bind fun dy => (g dx dy).bind boolD) = some b) : ∃ dx dy, view false ρ x = some dx ∧ view false ρ y = some dy ∧ g dx dy = some (.bool b) := by
  have := view2T (ρ := ρ) (ρ' := ρ) (x := x) (y := y) (g := g) (b := b) (by
    cases e1 : view false ρ x with
    | none =>
      rw [e1] at h
      cases h
    | some dx =>
      rw [e1] at h
      cases e2 : view false ρ y with
      | none =>
        rw [e2] at h
        cases h
      | some dy =>
        rw [e2] at h
        have h : (g dx dy).bind boolD = some b := h
        show ((g dx dy).bind boolD).map (fun z => (z, ρ)) = _
        rw [h]
        rfl)
  exact this.2
theorem chain_read [TC : TabsC] {op op' : CmpOp} {r r' : R2} {g g' : PyData → PyData → Option PyData} {t1 t2 t3 : TE}
    (hq : ∀ (M : List Addr) (H : Hp) (x y : V) (dx dy z : PyData), VW false X.K M H x dx → VW false X.K M H y dy → g dx dy = some z → ∀ Q : VK, (∀ v H', ResOk M H v H' z → Q v H') → r x y H Q)
    (hq' : ∀ (M : List Addr) (H : Hp) (x y : V) (dx dy z : PyData), VW false X.K M H x dx → VW false X.K M H y dy → g' dx dy = some z → ∀ Q : VK, (∀ v H', ResOk M H v H' z → Q v H') → r' x y H Q)
    (q1 : ∀ (S : Sit) (M : List Addr) (σ : L2.St) (H : Hp) (ρ : List SV) (r : RV) (ρ' : List SV), Rel S M σ H ρ → F ρ = some (r, ρ') → ∀ Q : VK, (∀ M' v H', Rel S M' σ H' ρ' → Tr σ M H ρ M' H' ρ' → RVOk X.K H M' σ H' ρ' v r → Q v H') → t1 σ H Q)
    (q2 : ∀ (S : Sit) (M : List Addr) (σ : L2.St) (H : Hp) (ρ : List SV) (r : RV) (ρ' : List SV), Rel S M σ H ρ → G ρ = some (r, ρ') → ∀ Q : VK, (∀ M' v H', Rel S M' σ H' ρ' → Tr σ M H ρ M' H' ρ' → RVOk X.K H M' σ H' ρ' v r → Q v H') → t2 σ H Q)
    (q3 : ∀ (S : Sit) (M : List Addr) (σ : L2.St) (H : Hp) (ρ : List SV) (r : RV) (ρ' : List SV), Rel S M σ H ρ → F3 ρ = some (r, ρ') → ∀ Q : VK, (∀ M' v H', Rel S M' σ H' ρ' → Tr σ M H ρ M' H' ρ' → RVOk X.K H M' σ H' ρ' v r → Q v H') → t3 σ H Q)
    {S : Sit} {M : List Addr} {σ : L2.St} {H : Hp} {ρ : List SV} {b : Bool} {ρ' : List SV} (R : Rel S M σ H ρ) (e : fChain g g' F G F3 ρ = some (b, ρ')) {Q : VK} (q : ∀ M' H', Rel S M' σ H' ρ' → Tr σ M H ρ M' H' ρ' → Q (.bl b) H') : tChain r r' t1 t2 t3 σ H Q := by
  obtain ⟨x, ρ1, ex, e⟩ := fbind_some e
  obtain ⟨y, ρ2, ey, e⟩ := fbind_some e
  refine q1 S M σ H ρ _ _ R ex _ fun M1 vx1 H1 R1 s1 k1 => ?_
  refine q2 S M1 σ H1 ρ1 _ _ R1 ey _ fun M2 vy1 H2 R2 s2 k2 => ?_
  split at e
  · rename_i eb
    obtain ⟨dx, dy, vx, vy, eg⟩ := view2B eb
    refine hq M2 H2 vx1 vy1 dx dy _ (view_ok R2 (k1.keep s2) vx) (view_ok R2 k2 vy) eg _ fun v H3 hr => ?_
    obtain ⟨k, hk⟩ := hr
    cases hk
    refine ⟨true, rfl, iteT ?_⟩
    obtain ⟨z, ρ3, ez, e⟩ := fbind_some e
    obtain ⟨rfl, dy2, dz, vy2, vz, eg2⟩ := view2T e
    refine q3 S M2 σ H3 ρ2 _ _ (R2.grow k) ez _ fun M4 vz1 H4 R4 s4 k4 => ?_
    refine hq' M4 H4 vy1 vz1 dy2 dz _ (view_ok R4 (k2.keep ((Tr2.grow k).trans s4)) vy2) (view_ok R4 k4 vz) eg2 _ fun v H5 hr => ?_
    obtain ⟨k5, hk⟩ := hr
    cases hk
    exact q M4 H5 (R4.grow k5) ((((s1.trans s2).trans (Tr2.grow k)).trans s4).trans (Tr2.grow k5))
  · rename_i eb
    cases e
    obtain ⟨dx, dy, vx, vy, eg⟩ := view2B eb
    refine hq M2 H2 vx1 vy1 dx dy _ (view_ok R2 (k1.keep s2) vx) (view_ok R2 k2 vy) eg _ fun v H3 hr => ?_
    obtain ⟨k, hk⟩ := hr
    cases hk
    exact ⟨false, rfl, iteF (q M2 H3 (R2.grow k) ((s1.trans s2).trans (Tr2.grow k)))⟩
  · cases e
theorem t_chain [TC : TabsC] {op op' : CmpOp} {g g' : PyData → PyData → Option PyData} (ho : Op2Ok false X (compareOp op) g) (ho' : Op2Ok false X (compareOp op') g') (h1 : OOk X e1 F) (h2 : OOk X e2 G) (h3 : OOk X e3 F3)
    (hm : lastMarks [op, op'] [e2, e3] = false := by with_unfolding_all rfl) : TOk X (.Compare e1 [op, op'] [e2, e3] pos) (fChain g g' F G F3) := by
  obtain ⟨r, hr, hq⟩ := ho
  obtain ⟨r', hr', hq'⟩ := ho'
  obtain ⟨t1, p1, q1⟩ := h1
  obtain ⟨t2, p2, q2⟩ := h2
  obtain ⟨t3, p3, q3⟩ := h3
  refine ⟨_, pt_chain hr hr' p1 p2 p3 hm, fun S M σ H ρ b ρ' R e Q q => ?_⟩
  exact chain_read (op := op) (op' := op') hq hq' q1 q2 q3 R e fun M' H' R' t => ⟨b, rfl, q M' H' R' t⟩
/-- a test's answer as a value -/
def fOfB (B : FM Bool) : FM RV := fbind B fun b => fpure (.dat (.bool b))
theorem o_chain [TC : TabsC] {op op' : CmpOp} {g g' : PyData → PyData → Option PyData} (ho : Op2Ok false X (compareOp op) g) (ho' : Op2Ok false X (compareOp op') g') (h1 : OOk X e1 F) (h2 : OOk X e2 G) (h3 : OOk X e3 F3)
    (hm : lastMarks [op, op'] [e2, e3] = false := by with_unfolding_all rfl) : OOk X (.Compare e1 [op, op'] [e2, e3] pos) (fOfB (fChain g g' F G F3)) := by
  obtain ⟨r, hr, hq⟩ := ho
  obtain ⟨r', hr', hq'⟩ := ho'
  obtain ⟨t1, p1, q1⟩ := h1
  obtain ⟨t2, p2, q2⟩ := h2
  obtain ⟨t3, p3, q3⟩ := h3
  refine ⟨_, pe_chain hr hr' p1 p2 p3 hm, fun S M σ H ρ b ρ' R e Q q => ?_⟩
  obtain ⟨b, ρ1, ex, e⟩ := fbind_some e
  cases e
  exact chain_read (op := op) (op' := op') hq hq' q1 q2 q3 R ex fun M' H' R' t => q M' _ H' R' t (.bl b)
/-! ### and, or, not as tests -/
def fAnd (B B2 : FM Bool) : FM Bool := fbind B fun b => if b = true then B2 else fpure false
def fOr (B B2 : FM Bool) : FM Bool := fbind B fun b => if b = true then fpure true else B2
def fNot (B : FM Bool) : FM Bool := fbind B fun b => fpure (!b)
theorem w_and1 [TC : TabsC] (h : TOk X e1 B) : WOk X (.BoolOp .And [e1] pos) B := by
  obtain ⟨t, p, q⟩ := h
  exact ⟨t, pw_and1 p, q⟩
theorem w_or1 [TC : TabsC] (h : TOk X e1 B) : WOk X (.BoolOp .Or [e1] pos) B := by
  obtain ⟨t, p, q⟩ := h
  exact ⟨t, pw_or1 p, q⟩
theorem w_and [TC : TabsC] (h1 : TOk X e1 B) (h2 : WOk X (.BoolOp .And (e2 :: es) pos) B2) : WOk X (.BoolOp .And (e1 :: e2 :: es) pos) (fAnd B B2) := by
  obtain ⟨t1, p1, q1⟩ := h1
  obtain ⟨t2, p2, q2⟩ := h2
  refine ⟨_, pw_and p1 p2, fun S M σ H ρ r ρ' R e Q q => ?_⟩
  obtain ⟨b, ρ1, ex, e⟩ := fbind_some e
  refine q1 S M σ H ρ _ _ R ex _ fun M1 H1 R1 s1 => ?_
  cases b with
  | true => exact iteT (q2 S M1 σ H1 ρ1 _ _ R1 e _ fun M2 H2 R2 s2 => q M2 H2 R2 (s1.trans s2))
  | false =>
    cases e
    exact iteF (q M1 H1 R1 s1)
theorem w_or [TC : TabsC] (h1 : TOk X e1 B) (h2 : WOk X (.BoolOp .Or (e2 :: es) pos) B2) : WOk X (.BoolOp .Or (e1 :: e2 :: es) pos) (fOr B B2) := by
  obtain ⟨t1, p1, q1⟩ := h1
  obtain ⟨t2, p2, q2⟩ := h2
  refine ⟨_, pw_or p1 p2, fun S M σ H ρ r ρ' R e Q q => ?_⟩
  obtain ⟨b, ρ1, ex, e⟩ := fbind_some e
  refine q1 S M σ H ρ _ _ R ex _ fun M1 H1 R1 s1 => ?_
  cases b with
  | false => exact iteF (q2 S M1 σ H1 ρ1 _ _ R1 e _ fun M2 H2 R2 s2 => q M2 H2 R2 (s1.trans s2))
  | true =>
    cases e
    exact iteT (q M1 H1 R1 s1)
theorem t_w [TC : TabsC] (h : WOk X e B) : TOk X e B := by
  obtain ⟨t, p, q⟩ := h
  exact ⟨t, p.pt, q⟩
theorem t_not [TC : TabsC] (h : TOk X e1 B) : TOk X (.UnaryOp .Not e1 pos) (fNot B) := by
  obtain ⟨t1, p1, q1⟩ := h
  refine ⟨_, pt_not p1, fun S M σ H ρ r ρ' R e Q q => ?_⟩
  obtain ⟨b, ρ1, ex, e⟩ := fbind_some e
  cases e
  exact q1 S M σ H ρ _ _ R ex _ fun M1 H1 R1 s1 => q M1 H1 R1 s1
/-! ### .. as values -/
def toB : RV → FM Bool
  | .dat (.bool b) => fpure b
  | _ => fun _ => none
def fAndV (F G : FM RV) : FM RV := fbind F fun r => fbind (toB r) fun b => if b = true then G else fpure (.dat (.bool false))
def fOrV (F G : FM RV) : FM RV := fbind F fun r => fbind (toB r) fun b => if b = true then fpure (.dat (.bool true)) else G
def fNotV (F : FM RV) : FM RV := fbind F fun r => fbind (toB r) fun b => fpure (.dat (.bool (!b)))
theorem toB_some {r : RV} {ρ ρ' : List SV} {b : Bool} (h : toB r ρ = some (b, ρ')) : r = .dat (.bool b) ∧ ρ' = ρ := by
  unfold toB at h
  split at h
  · cases h
    exact ⟨rfl, rfl⟩
  · cases h
theorem o_one [TC : TabsC] {op : BoolOp} (h : OOk X e1 F) : OOk X (.BoolOp op [e1] pos) F := by
  obtain ⟨t, p, q⟩ := h
  exact ⟨t, pe_one p, q⟩
theorem o_and [TC : TabsC] (h1 : OOk X e1 F) (h2 : OOk X (.BoolOp .And (e2 :: es) pos) G) : OOk X (.BoolOp .And (e1 :: e2 :: es) pos) (fAndV F G) := by
  obtain ⟨t1, p1, q1⟩ := h1
  obtain ⟨t2, p2, q2⟩ := h2
  refine ⟨_, pe_and p1 p2, fun S M σ H ρ r ρ' R e Q q => ?_⟩
  obtain ⟨r1, ρ1, ex, e⟩ := fbind_some e
  obtain ⟨b, ρ2, ey, e⟩ := fbind_some e
  obtain ⟨rfl, rfl⟩ := toB_some ey
  refine q1 S M σ H ρ _ _ R ex _ fun M1 v H1 R1 s1 k1 => ?_
  cases k1
  refine ⟨b, rfl, ?_⟩
  cases b with
  | true => exact iteT (q2 S M1 σ H1 ρ2 _ _ R1 e _ fun M2 v H2 R2 s2 k2 => q M2 v H2 R2 (s1.trans s2) (k2.back s1.fr))
  | false =>
    cases e
    exact iteF (q M1 _ H1 R1 s1 (.bl _))
theorem o_or [TC : TabsC] (h1 : OOk X e1 F) (h2 : OOk X (.BoolOp .Or (e2 :: es) pos) G) : OOk X (.BoolOp .Or (e1 :: e2 :: es) pos) (fOrV F G) := by
  obtain ⟨t1, p1, q1⟩ := h1
  obtain ⟨t2, p2, q2⟩ := h2
  refine ⟨_, pe_or p1 p2, fun S M σ H ρ r ρ' R e Q q => ?_⟩
  obtain ⟨r1, ρ1, ex, e⟩ := fbind_some e
  obtain ⟨b, ρ2, ey, e⟩ := fbind_some e
  obtain ⟨rfl, rfl⟩ := toB_some ey
  refine q1 S M σ H ρ _ _ R ex _ fun M1 v H1 R1 s1 k1 => ?_
  cases k1
  refine ⟨b, rfl, ?_⟩
  cases b with
  | false => exact iteF (q2 S M1 σ H1 ρ2 _ _ R1 e _ fun M2 v H2 R2 s2 k2 => q M2 v H2 R2 (s1.trans s2) (k2.back s1.fr))
  | true =>
    cases e
    exact iteT (q M1 _ H1 R1 s1 (.bl _))
theorem o_not [TC : TabsC] (h1 : OOk X e1 F) : OOk X (.UnaryOp .Not e1 pos) (fNotV F) := by
  obtain ⟨t1, p1, q1⟩ := h1
  refine ⟨_, pe_not p1, fun S M σ H ρ r ρ' R e Q q => ?_⟩
  obtain ⟨r1, ρ1, ex, e⟩ := fbind_some e
  obtain ⟨b, ρ2, ey, e⟩ := fbind_some e
  obtain ⟨rfl, rfl⟩ := toB_some ey
  cases e
  refine q1 S M σ H ρ _ _ R ex _ fun M1 v H1 R1 s1 k1 => ?_
  cases k1
  exact ⟨b, rfl, q M1 _ H1 R1 s1 (.bl _)⟩
def fIf {α : Type} (B : FM Bool) (F G : FM α) : FM α := fbind B fun b => if b = true then F else G
theorem o_if [TC : TabsC] (hc : TOk X e1 B) (h1 : OOk X e2 F) (h2 : OOk X e3 G) : OOk X (.IfExp e1 e2 e3 pos) (fIf B F G) := by
  obtain ⟨t0, p0, q0⟩ := hc
  obtain ⟨t1, p1, q1⟩ := h1
  obtain ⟨t2, p2, q2⟩ := h2
  refine ⟨_, pe_ifExp p0 p1 p2, fun S M σ H ρ r ρ' R e Q q => ?_⟩
  obtain ⟨b, ρ1, ex, e⟩ := fbind_some e
  refine q0 S M σ H ρ _ _ R ex _ fun M1 H1 R1 s1 => ?_
  cases b with
  | true => exact iteT (q1 S M1 σ H1 ρ1 _ _ R1 e _ fun M2 v H2 R2 s2 k2 => q M2 v H2 R2 (s1.trans s2) (k2.back s1.fr))
  | false => exact iteF (q2 S M1 σ H1 ρ1 _ _ R1 e _ fun M2 v H2 R2 s2 k2 => q M2 v H2 R2 (s1.trans s2) (k2.back s1.fr))
/-! ### slices -/
def POk [TC : TabsC] (X : Cx) (e : Option Expr) (F : FM (Option Int)) : Prop := ∃ t, PO X e t ∧ ∀ (S : Sit) (M : List Addr) (σ : L2.St) (H : Hp) (ρ : List SV) (r : Option Int) (ρ' : List SV), Rel S M σ H ρ → F ρ = some (r, ρ') →
  ∀ Q : Option Int → Hp → Prop, (∀ M' H', Rel S M' σ H' ρ' → Tr σ M H ρ M' H' ρ' → Q r H') → t σ H Q
def toI : RV → FM (Option Int)
  | .dat (.int i) => fpure (some i)
  | _ => fun _ => none
theorem p_none [TC : TabsC] : POk X none (fpure none) := by
  refine ⟨_, po_none, fun S M σ H ρ r ρ' R e Q q => ?_⟩
  cases e
  exact q M H R Tr2.refl
theorem p_some [TC : TabsC] (h : OOk X e F) : POk X (some e) (fbind F toI) := by
  obtain ⟨t1, p1, q1⟩ := h
  refine ⟨_, po_some p1, fun S M σ H ρ r ρ' R e Q q => ?_⟩
  obtain ⟨r1, ρ1, ex, e⟩ := fbind_some e
  unfold toI at e
  split at e
  · cases e
    refine q1 S M σ H ρ _ _ R ex _ fun M1 v H1 R1 s1 k1 => ?_
    cases k1
    exact ⟨_, rfl, q M1 H1 R1 s1⟩
  · cases e
def Sl2Ok (X : Cx) (g : PyData → Option Int → Option Int → Option PyData) : Prop := ∃ r : V → Option Int → Option Int → Hp → VK → Prop, SlR X r ∧ ∀ (M : List Addr) (H : Hp) (x : V) (dx z : PyData) (lo hi : Option Int), VW true X.K M H x dx → g dx lo hi = some z →
  ∀ Q : VK, (∀ v H', ResOk M H v H' z → Q v H') → r x lo hi H Q
def fSl (g : PyData → Option Int → Option Int → Option PyData) (F : FM RV) (L U : FM (Option Int)) : FM RV := fbind F fun x => fbind L fun lo => fbind U fun hi => fun ρ => (view true ρ x).bind fun dx => (g dx lo hi).map fun z => (resRV z, ρ)
theorem view1r {ρ ρ' : List SV} {x : RV} {g : PyData → Option PyData} {r : RV} (h : ((view true ρ x).bind fun dx => (g dx).map fun z => (resRV z, ρ)) = some (r, ρ')) : ρ' = ρ ∧ ∃ dx z, view true ρ x = some dx ∧ g dx = some z ∧ r = resRV z := by
  cases e1 : view true ρ x with
  | none =>
    rw [e1] at h
    cases h
  | some dx =>
    rw [e1] at h
    have h : (g dx).map (fun z => (resRV z, ρ)) = some (r, ρ') := h
    cases e3 : g dx with
    | none =>
      rw [e3] at h
      cases h
    | some z =>
      rw [e3] at h
      cases h
      exact ⟨rfl, dx, z, rfl, e3, rfl⟩
theorem o_slice [TC : TabsC] {g : PyData → Option Int → Option Int → Option PyData} {lo hi : Option Expr} {L U : FM (Option Int)} {p2 : Pos} (ho : Sl2Ok X g) (h1 : OOk X e1 F) (hl : POk X lo L) (hu : POk X hi U) : OOk X (.Subscript e1 (.Slice lo hi none p2) pos) (fSl g F L U) := by
  obtain ⟨r, hr, hq⟩ := ho
  obtain ⟨t1, p1, q1⟩ := h1
  obtain ⟨t2, p2, q2⟩ := hl
  obtain ⟨t3, p3, q3⟩ := hu
  refine ⟨_, pe_slice hr p1 p2 p3, fun S M σ H ρ r ρ' R e Q q => ?_⟩
  obtain ⟨x, ρ1, ex, e⟩ := fbind_some e
  obtain ⟨l, ρ2, el, e⟩ := fbind_some e
  obtain ⟨u, ρ3, eu, e⟩ := fbind_some e
  obtain ⟨rfl, dx, z, vx, eg, rfl⟩ := view1r e
  refine q1 S M σ H ρ _ _ R ex _ fun M1 v H1 R1 s1 k1 => ?_
  refine q2 S M1 σ H1 ρ1 _ _ R1 el _ fun M2 H2 R2 s2 => ?_
  refine q3 S M2 σ H2 ρ2 _ _ R2 eu _ fun M3 H3 R3 s3 => ?_
  refine hq M3 H3 v dx z l u (view_ok R3 (k1.keep (s2.trans s3)) vx) eg _ fun v' H' hr => ?_
  obtain ⟨M', a1, a2, a3⟩ := res_rv (K := X.K) R3 ((s1.trans s2).trans s3) hr
  exact q M' v' H' a1 a2 a3
end
end Cb

end

section
set_option maxRecDepth 100000
set_option maxHeartbeats 4000000
set_option autoImplicit false
/-! Pf, part D: statements, targets, loops, comprehensions. -/
namespace Cb
open PySem PySem.Spec PyProof.Rows L2
theorem DAll.set {H : Hp} : ∀ {ys : List V} {ds : List PyData} {v : V} {x : PyData} (n : Nat), DAll H ys ds → DA H v x → DAll H (ys.set n v) (ds.set n x)
  | _, _, _, _, _, .nil, _ => .nil
  | _, _, _, _, 0, .cons h t, k => .cons k t
  | _, _, _, _, n + 1, .cons h t, k => .cons h (DAll.set n t k)
/-- what a def hands back -/
inductive RD where
  | dat (x : PyData) | new (ds : List PyData)
/-- how a block ends -/
inductive Out where
  | nx (ρ : List SV) | rt (r : RD) (ρ : List SV) | bk (ρ : List SV) | ct (ρ : List SV)
abbrev FB := List SV → Option Out
def RDOk (S : Sit) (M : List Addr) (H : Hp) (v : V) : RD → Prop
  | .dat x => DA (Hid M H) v x
  | .new ds => ∃ a ys, v = .ref a ∧ a ∈ M ∧ S.H0 a = none ∧ H a = some (.lst ys) ∧ DAll (Hid M H) ys ds
def Fin' [TC : TabsC] (S : Sit) (M : List Addr) (H : Hp) (D : Ends) : Out → Prop
  | .nx ρ' => ∀ M' σ' H', Rel S M' σ' H' ρ' → Vis M H M' H' → D.nx σ' H'
  | .bk ρ' => ∀ M' σ' H', Rel S M' σ' H' ρ' → Vis M H M' H' → D.bk σ' H'
  | .ct ρ' => ∀ M' σ' H', Rel S M' σ' H' ρ' → Vis M H M' H' → D.ct σ' H'
  | .rt r ρ' => ∀ M' σ' v H', Rel S M' σ' H' ρ' → Vis M H M' H' → RDOk S M' H' v r → D.rt v H'
theorem Fin'.later [TC : TabsC] {S : Sit} {M M1 : List Addr} {H H1 : Hp} {D : Ends} {o : Out} (h : Fin' S M H D o) (s : Vis M H M1 H1) : Fin' S M1 H1 D o := by
  cases o with
  | nx ρ => exact fun M' σ' H' R v => h M' σ' H' R (L2.Same.trans s v)
  | bk ρ => exact fun M' σ' H' R v => h M' σ' H' R (L2.Same.trans s v)
  | ct ρ => exact fun M' σ' H' R v => h M' σ' H' R (L2.Same.trans s v)
  | rt r ρ => exact fun M' σ' w H' R v => h M' σ' w H' R (L2.Same.trans s v)
/-- a statement, a block -/
def SOk [TC : TabsC] (X : Cx) (st : Stmt) (F : FB) : Prop := ∃ t, PS X st t ∧ ∀ (S : Sit) (M : List Addr) (σ : L2.St) (H : Hp) (ρ : List SV) (o : Out), Rel S M σ H ρ → F ρ = some o → ∀ D : Ends, Fin' S M H D o → t D σ H
def BOk [TC : TabsC] (X : Cx) (sts : List Stmt) (F : FB) : Prop := ∃ t, PSs X sts t ∧ ∀ (S : Sit) (M : List Addr) (σ : L2.St) (H : Hp) (ρ : List SV) (o : Out), Rel S M σ H ρ → F ρ = some o → ∀ D : Ends, Fin' S M H D o → t D σ H
def fSkip : FB := fun ρ => some (.nx ρ)
def fSeq (F G : FB) : FB := fun ρ => match F ρ with
  | some (.nx ρ1) => G ρ1
  | o => o
section
variable {X : Cx} {e e1 e2 e3 : Expr} {es : List Expr} {F F2 F3 : FM RV} {A : FM (List RV)} {B B2 : FM Bool} {pos : Pos} {st : Stmt} {sts sts2 : List Stmt} {P Q1 P2 : FB}
theorem b_nil [TC : TabsC] : BOk X [] fSkip := by
  refine ⟨_, pss_nil, fun S M σ H ρ o R e D q => ?_⟩
  cases e
  exact q M σ H R Vis.refl
theorem b_one [TC : TabsC] (h : SOk X st P) : BOk X [st] P := by
  obtain ⟨t, p, q⟩ := h
  exact ⟨t, pss_one p, q⟩
theorem b_cons [TC : TabsC] (h : SOk X st P) (h2 : BOk X sts Q1) : BOk X (st :: sts) (fSeq P Q1) := by
  obtain ⟨t, p, q⟩ := h
  obtain ⟨t2, p2, q2⟩ := h2
  refine ⟨_, pss_cons p p2, fun S M σ H ρ o R e D q0 => ?_⟩
  show t { D with nx := t2 D } σ H
  unfold fSeq at e
  split at e
  · rename_i ρ1 e1
    refine q S M σ H ρ _ R e1 _ fun M' σ' H' R' v => ?_
    exact q2 S M' σ' H' ρ1 o R' e D (q0.later v)
  · rename_i n
    refine q S M σ H ρ o R e _ ?_
    cases o with
    | nx ρ1 => exact absurd e (n ρ1)
    | bk ρ1 => exact q0
    | ct ρ1 => exact q0
    | rt r ρ1 => exact q0
/-! ### small statements -/
def fDrop (F : FM RV) : FB := fun ρ => match F ρ with
  | some (_, ρ1) => some (.nx ρ1)
  | none => none
theorem s_expr [TC : TabsC] (h : OOk X e F) (hs : swapsWith e none pos.line X.env = pure false := by rfl) : SOk X (.Expr e pos) (fDrop F) := by
  obtain ⟨t, p, q⟩ := h
  refine ⟨_, ps_expr p hs, fun S M σ H ρ o R e D q0 => ?_⟩
  unfold fDrop at e
  split at e
  · rename_i r ρ1 e1
    cases e
    exact q S M σ H ρ _ _ R e1 _ fun M' v H' R' t _ => q0 M' σ H' R' t.vis
  · cases e
def toRD : RV → FM RD
  | .dat x => fpure (.dat x)
  | .new ds => fpure (.new ds)
  | .slot i => fun ρ => match ρ[i]? with
    | some (.d x) => some (.dat x, ρ)
    | some (.own ds) => some (.new ds, ρ.set i .un)
    | _ => none
  | .cst _ => fun _ => none
theorem toRD_ok [TC : TabsC] {S : Sit} {K : PySem.W.Frag} {M M0 : List Addr} {σ : L2.St} {H H0 : Hp} {ρ ρ0 ρ' : List SV} {v : V} {r : RV} {d : RD} (R0 : Rel S M0 σ H0 ρ0) (R : Rel S M σ H ρ) (h : RVOk K H0 M σ H ρ v r) (e : toRD r ρ = some (d, ρ')) : Rel S M σ H ρ' ∧ RDOk S M H v d := by
  cases r with
  | dat x =>
    cases e
    exact ⟨R, h⟩
  | new ds =>
    cases e
    obtain ⟨a, ys, rfl, h1, h2, h3, h4, _⟩ := h
    exact ⟨R, a, ys, rfl, h1, R0.freshN h4, h2, h3⟩
  | slot i =>
    unfold toRD at e
    dsimp only at e
    have h : σ[i]? = some (some v) := h
    split at e
    · rename_i x e1
      cases e
      obtain ⟨w, h1, h2⟩ := R.slots i _ e1
      rw [h] at h1
      cases h1
      exact ⟨R, h2⟩
    · rename_i ds e1
      cases e
      obtain ⟨a, ys, h1, h2, h3, h4, h5⟩ := R.slots i _ e1
      rw [h] at h1
      cases h1
      exact ⟨R.tell e1 (fun _ z => nomatch z) trivial rfl, a, ys, rfl, h2, h5, h3, h4⟩
    · cases e
  | cst ds => cases e
def fRet (F : FM RV) : FB := fun ρ => match fbind F toRD ρ with
  | some (d, ρ1) => some (.rt d ρ1)
  | none => none
theorem s_ret [TC : TabsC] (h : OOk X e F) : SOk X (.Return (some e) pos) (fRet F) := by
  obtain ⟨t, p, q⟩ := h
  refine ⟨_, ps_ret p, fun S M σ H ρ o R e D q0 => ?_⟩
  unfold fRet at e
  split at e
  · rename_i d ρ1 e1
    cases e
    obtain ⟨r, ρ2, e2, e3⟩ := fbind_some e1
    refine q S M σ H ρ _ _ R e2 _ fun M' v H' R' t k => ?_
    obtain ⟨a1, a2⟩ := toRD_ok R R' k e3
    exact q0 M' σ v H' a1 t.vis a2
  · cases e
def fIfS (B : FM Bool) (P Q1 : FB) : FB := fun ρ => match B ρ with
  | some (true, ρ1) => P ρ1
  | some (false, ρ1) => Q1 ρ1
  | none => none
theorem s_if [TC : TabsC] (hc : TOk X e B) (h1 : BOk X sts P) (h2 : BOk X sts2 Q1) : SOk X (.If e sts sts2 pos) (fIfS B P Q1) := by
  obtain ⟨t0, p0, q0⟩ := hc
  obtain ⟨t1, p1, q1⟩ := h1
  obtain ⟨t2, p2, q2⟩ := h2
  refine ⟨_, ps_if p0 p1 p2, fun S M σ H ρ o R e D q => ?_⟩
  unfold fIfS at e
  split at e
  · rename_i ρ1 e1
    exact q0 S M σ H ρ _ _ R e1 _ fun M1 H1 R1 s1 => iteT (q1 S M1 σ H1 ρ1 o R1 e D (q.later s1.vis))
  · rename_i ρ1 e1
    exact q0 S M σ H ρ _ _ R e1 _ fun M1 H1 R1 s1 => iteF (q2 S M1 σ H1 ρ1 o R1 e D (q.later s1.vis))
  · cases e
/-! ### x = e -/
def putRV (i : Nat) (r : RV) : List SV → Option (List SV) := fun ρ => match ρ[i]? with
  | none => none
  | some (.par _) => none
  | some _ => match r with
    | .dat x => some (ρ.set i (.d x))
    | .new ds => some (ρ.set i (.own ds))
    | .slot j => match ρ[j]? with
      | some (.d x) => some (ρ.set i (.d x))
      | some (.own ds) => some ((ρ.set j (.d (.list ds))).set i (.d (.list ds)))
      | _ => none
    | .cst _ => none
theorem putRV_ok [TC : TabsC] {S : Sit} {K : PySem.W.Frag} {M M0 : List Addr} {σ σ0 : L2.St} {H H0 : Hp} {ρ ρ0 ρ' : List SV} {v : V} {r : RV} {i : Nat} (R0 : Rel S M0 σ0 H0 ρ0) (R : Rel S M σ H ρ) (h : RVOk K H0 M σ H ρ v r) (e : putRV i r ρ = some ρ') : ∃ M', Rel S M' (σ.set i (some v)) H ρ' ∧ Vis M H M' H := by
  unfold putRV at e
  split at e
  · cases e
  · cases e
  · rename_i s np hs
    have np : ∀ ds, s ≠ .par ds := fun ds z => np ds z
    cases r with
    | dat x =>
      cases e
      exact ⟨M, R.put hs np h, Vis.refl⟩
    | new ds =>
      cases e
      obtain ⟨a, ys, rfl, h1, h2, h3, h4, h5⟩ := h
      exact ⟨M, R.take hs np h1 h2 h3 (R0.freshN h4) h5, Vis.refl⟩
    | slot j =>
      have h : σ[j]? = some (some v) := h
      dsimp only at e
      split at e
      · rename_i x e1
        cases e
        obtain ⟨w, h1, h2⟩ := R.slots j _ e1
        rw [h] at h1
        cases h1
        exact ⟨M, R.put hs np h2, Vis.refl⟩
      · rename_i ds e1
        cases e
        obtain ⟨p, h1, h2, h3⟩ := R.freeze e1
        rw [h] at h1
        cases h1
        have hi : i < ρ.length := (List.getElem?_eq_some_iff.mp hs).1
        obtain ⟨u, hu, nu⟩ : ∃ u, (ρ.set j (.d (.list ds)))[i]? = some u ∧ ∀ ds, u ≠ .par ds := by
          by_cases c : i = j
          · subst c
            exact ⟨_, get_set_self hi, fun _ z => nomatch z⟩
          · exact ⟨s, by rw [List.getElem?_set_ne (Ne.symm c)]; exact hs, np⟩
        exact ⟨_, h2.put hu nu h3, vis_out⟩
      · cases e
    | cst ds => cases e
def fSet (i : Nat) (F : FM RV) : FB := fun ρ => match F ρ with
  | some (r, ρ1) => (putRV i r ρ1).map .nx
  | none => none
/-- any statement that reads as an assignment to slot i -/
theorem s_set' [TC : TabsC] {t : TE} {i : Nat} (p : PS X st (tAsg t (gName i)))
    (q : ∀ (S : Sit) (M : List Addr) (σ : L2.St) (H : Hp) (ρ : List SV) (r : RV) (ρ' : List SV), Rel S M σ H ρ → F ρ = some (r, ρ') → ∀ Q : VK, (∀ M' v H', Rel S M' σ H' ρ' → Tr σ M H ρ M' H' ρ' → RVOk X.K H M' σ H' ρ' v r → Q v H') → t σ H Q) : SOk X st (fSet i F) := by
  refine ⟨_, p, fun S M σ H ρ o R e D q0 => ?_⟩
  unfold fSet at e
  split at e
  · rename_i r ρ1 e1
    cases e2 : putRV i r ρ1 with
    | none =>
      rw [e2] at e
      cases e
    | some ρ2 =>
      rw [e2] at e
      cases e
      refine q S M σ H ρ _ _ R e1 _ fun M' v H' R' t k => ?_
      obtain ⟨M2, a1, a2⟩ := putRV_ok R R' k e2
      exact q0 M2 _ H' a1 (L2.Same.trans t.vis a2)
  · cases e
theorem s_set [TC : TabsC] {i : Nat} (h : OOk X e F) (mk : ∀ t, PE X e t → PS X st (tAsg t (gName i))) : SOk X st (fSet i F) := by
  obtain ⟨t, p, q⟩ := h
  exact s_set' (mk t p) q
/-- x, y = a, b: the two names' slots hold no lists before -/
def noLst (i : Nat) (ρ : List SV) : Bool := match ρ[i]? with
  | some s => s.lst.isNone
  | none => false
def isSlot : RV → Bool
  | .slot _ => true
  | _ => false
def fPar (i j : Nat) (A : FM (List RV)) : FB := fun ρ => match A ρ with
  | some ([r, s], ρ1) => if (noLst i ρ1 && noLst j ρ1 && decide (i ≠ j) && !isSlot r && !isSlot s) = true then ((putRV i r ρ1).bind (putRV j s)).map .nx else none
  | _ => none
/-! ### targets -/
/-- a datum, or a new pair as a loop hands it out -/
inductive IV where
  | dat (x : PyData) | tup (ds : List PyData)
def IVOk (K : PySem.W.Frag) (M : List Addr) (H : Hp) (v : V) : IV → Prop
  | .dat x => DA (Hid M H) v x
  | .tup ds => ∃ a ys, v = .ref a ∧ SqT K H a ys ∧ DAll (Hid M H) ys ds
abbrev FG := IV → List SV → Option (List SV)
/-- a target: ts its slots -/
def GOk [TC : TabsC] (X : Cx) (tg : Expr) (ts : List Nat) (G : FG) : Prop := ∃ g, PG X tg g ∧ ∀ (S : Sit) (M : List Addr) (σ : L2.St) (H : Hp) (ρ ρ' : List SV) (v : V) (d : IV), Rel S M σ H ρ → IVOk X.K M H v d → G d ρ = some ρ' →
  ∀ Q : L2.St → Hp → Prop, (∀ M' σ' H', Rel S M' σ' H' ρ' → Tr2 σ M H ρ σ' M' H' ρ' → (∀ vs : List Nat, (∀ t ∈ ts, t ∈ vs) → wipe σ' vs = wipe σ vs) → Q σ' H') → g v σ H Q
def GsOk [TC : TabsC] (X : Cx) (tgs : List Expr) (ts : List Nat) (G : List PyData → List SV → Option (List SV)) : Prop := ∃ g, PGs X tgs g ∧ ∀ (S : Sit) (M : List Addr) (σ : L2.St) (H : Hp) (ρ ρ' : List SV) (vs : List V) (ds : List PyData), Rel S M σ H ρ → DAll (Hid M H) vs ds → G ds ρ = some ρ' →
  ∀ Q : L2.St → Hp → Prop, (∀ M' σ' H', Rel S M' σ' H' ρ' → Tr2 σ M H ρ σ' M' H' ρ' → (∀ vs : List Nat, (∀ t ∈ ts, t ∈ vs) → wipe σ' vs = wipe σ vs) → Q σ' H') → g vs σ H Q
def isPar : SV → Bool
  | .par _ => true
  | _ => false
def gN' (i : Nat) : FG := fun d ρ => match d with
  | .dat x => match ρ[i]? with
    | some s => if isPar s = true then none else some (ρ.set i (.d x))
    | none => none
  | _ => none
theorem wipe_set {σ : L2.St} {i : Nat} {x : Option V} : ∀ {vs : List Nat}, i ∈ vs → wipe (σ.set i x) vs = wipe σ vs
  | v :: vs, h => by
    unfold wipe
    by_cases c : i ∈ vs
    · rw [wipe_set c]
    · have e : i = v := by
        rcases List.mem_cons.mp h with z | z
        · exact z
        · exact absurd z c
      subst e
      rw [wipe_comm c, List.set_set]
  where wipe_comm {σ : L2.St} {i : Nat} {x : Option V} : ∀ {vs : List Nat}, i ∉ vs → wipe (σ.set i x) vs = (wipe σ vs).set i x
    | [], _ => rfl
    | v :: vs, h => by
      unfold wipe
      rw [wipe_comm (fun z => h (List.mem_cons_of_mem _ z)), List.set_comm _ _ (fun z => h (by rw [z]; exact List.mem_cons_self))]
theorem g_name [TC : TabsC] {i : Nat} {tg : Expr} (h : PG X tg (gName i)) : GOk X tg [i] (gN' i) := by
  refine ⟨_, h, fun S M σ H ρ ρ' v d R k e Q q => ?_⟩
  unfold gN' at e
  split at e
  · rename_i x
    split at e
    · rename_i s hs
      split at e
      · cases e
      rename_i hp
      cases e
      have np : ∀ ds, s ≠ .par ds := fun ds z => hp (by rw [z]; rfl)
      refine q M _ H (R.put hs np k) ⟨Vis.refl, fun _ _ m e _ _ => ⟨m, e⟩, fun a n j u hj l => ?_, fun _ n => n⟩ fun vs hv => wipe_set (hv i List.mem_cons_self)
      rcases set_get hj with ⟨rfl, rfl⟩ | ⟨nj, h2⟩
      · exact absurd rfl l
      · rw [List.getElem?_set_ne (Ne.symm nj)]
        exact n j u h2 l
    · cases e
  · cases e
def gNil' : List PyData → List SV → Option (List SV) := fun ds ρ => match ds with
  | [] => some ρ
  | _ => none
def gCons' (G : FG) (Gs : List PyData → List SV → Option (List SV)) : List PyData → List SV → Option (List SV) := fun ds ρ => match ds with
  | d :: r => (G (.dat d) ρ).bind (Gs r)
  | [] => none
theorem g_nil [TC : TabsC] : GsOk X [] [] gNil' := by
  refine ⟨_, pgs_nil, fun S M σ H ρ ρ' vs ds R k e Q q => ?_⟩
  cases k with
  | nil =>
    cases e
    exact ⟨rfl, q M σ H R Tr2.refl fun _ _ => rfl⟩
  | cons _ _ => cases e
theorem g_cons [TC : TabsC] {tg : Expr} {tgs : List Expr} {ts ts2 : List Nat} {G : FG} {Gs : List PyData → List SV → Option (List SV)} (h : GOk X tg ts G) (h2 : GsOk X tgs ts2 Gs) (mk : ∀ g gs, PG X tg g → PGs X tgs gs → PGs X (tg :: tgs) (gCons g gs) := by exact fun _ _ a b => pgs_cons a b) : GsOk X (tg :: tgs) (ts ++ ts2) (gCons' G Gs) := by
  obtain ⟨g, p, q⟩ := h
  obtain ⟨g2, p2, q2⟩ := h2
  refine ⟨_, mk g g2 p p2, fun S M σ H ρ ρ' vs ds R k e Q q0 => ?_⟩
  cases k with
  | nil => cases e
  | cons k1 k2 =>
    rename_i v vs d ds
    cases e1 : G (.dat d) ρ with
    | none =>
      have e : (G (.dat d) ρ).bind (Gs ds) = some ρ' := e
      rw [e1] at e
      cases e
    | some ρ1 =>
      have e : (G (.dat d) ρ).bind (Gs ds) = some ρ' := e
      rw [e1] at e
      refine ⟨_, _, rfl, q S M σ H ρ ρ1 v (.dat d) R k1 e1 _ fun M1 σ1 H1 R1 t1 w1 => ?_⟩
      refine q2 S M1 σ1 H1 ρ1 ρ' vs ds R1 (k2.same t1.vis) e _ fun M2 σ2 H2 R2 t2 w2 => ?_
      exact q0 M2 σ2 H2 R2 (t1.trans t2) fun ws hw => (w2 ws fun t m => hw t (List.mem_append_right _ m)).trans (w1 ws fun t m => hw t (List.mem_append_left _ m))
def gTup' (n : Nat) (Gs : List PyData → List SV → Option (List SV)) : FG := fun d ρ => match d with
  | .dat (.tuple ds) => if ds.length = n then Gs ds ρ else none
  | .tup ds => if ds.length = n then Gs ds ρ else none
  | _ => none
theorem g_tup [TC : TabsC] {tgs : List Expr} {k n : Nat} {ts : List Nat} {Gs : List PyData → List SV → Option (List SV)} (h : GsOk X tgs ts Gs) (mk : ∀ g, PGs X tgs g → PG X (.Tuple tgs k pos) (gTup X.K n g)) : GOk X (.Tuple tgs k pos) ts (gTup' n Gs) := by
  obtain ⟨g, p, q⟩ := h
  refine ⟨_, mk g p, fun S M σ H ρ ρ' v d R k e Q q0 => ?_⟩
  have go : ∀ ds : List PyData, (∃ a ys, v = .ref a ∧ SqT X.K H a ys ∧ DAll (Hid M H) ys ds) → (if ds.length = n then Gs ds ρ else none) = some ρ' → gTup X.K n g v σ H Q := fun ds ⟨a, ys, e1, e2, e3⟩ e => by
    by_cases c : ds.length = n
    · rw [if_pos c] at e
      exact ⟨a, ys, e1, e2, by rw [e3.length]; exact c, q S M σ H ρ ρ' ys ds R e3 e Q q0⟩
    · rw [if_neg c] at e
      cases e
  cases d with
  | dat x =>
    cases x with
    | tuple ds =>
      obtain ⟨a, ys, e1, e2, e3⟩ := (DA.view (K := X.K) (s := false) k : VW false X.K M H v (.tuple ds)).1
      exact go ds ⟨a, ys, e1, e2, e3⟩ e
    | _ => cases e
  | tup ds => exact go ds k e
/-! ### a list's item takes a value -/
def setItem (o k : RV) (x : PyData) : List SV → Option (List SV) := fun ρ => match o, k with
  | .slot i, .dat (.int j) => match ρ[i]? with
    | some s => match s.lst with
      | some ds => (ixN ds.length j).map fun m => ρ.set i (s.put (ds.set m x))
      | none => none
    | none => none
  | _, _ => none
def gSub' (F G : FM RV) : FG := fun d ρ => match d with
  | .dat x => (fbind F fun o => fbind G fun k => fun ρ1 => (setItem o k x ρ1).map fun ρ2 => ((), ρ2)) ρ |>.map (·.2)
  | _ => none
theorem g_sub [TC : TabsC] {F2 : FM RV} (h1 : OOk X e1 F) (h2 : OOk X e2 F2) (mk : ∀ t1 t2, PE X e1 t1 → PE X e2 t2 → PG X e (gSub t1 t2 rSetL)) : GOk X e [] (gSub' F F2) := by
  obtain ⟨t1, p1, q1⟩ := h1
  obtain ⟨t2, p2, q2⟩ := h2
  refine ⟨_, mk t1 t2 p1 p2, fun S M σ H ρ ρ' v d R k e Q q => ?_⟩
  unfold gSub' at e
  split at e
  · rename_i x
    cases e0 : (fbind F fun o => fbind F2 fun k => fun ρ1 => (setItem o k x ρ1).map fun ρ2 => ((), ρ2)) ρ with
    | none =>
      rw [e0] at e
      cases e
    | some z =>
      obtain ⟨u, ρz⟩ := z
      rw [e0] at e
      cases e
      obtain ⟨o, ρ1, ex, e⟩ := fbind_some e0
      obtain ⟨j, ρ2, ey, e⟩ := fbind_some e
      cases e3 : setItem o j x ρ2 with
      | none =>
        rw [e3] at e
        cases e
      | some ρ3 =>
        rw [e3] at e
        cases e
        unfold setItem at e3
        split at e3
        · rename_i i m
          split at e3
          · rename_i s hs
            split at e3
            · rename_i ds hl
              cases e4 : ixN ds.length m with
              | none =>
                rw [e4] at e3
                cases e3
              | some n =>
                rw [e4] at e3
                cases e3
                refine q1 S M σ H ρ _ _ R ex _ fun M1 w1 H1 R1 s1 k1 => ?_
                refine q2 S M1 σ H1 ρ1 _ _ R1 ey _ fun M2 w2 H2 R2 s2 k2 => ?_
                cases k2
                have k1 : σ[i]? = some (some w1) := k1
                have ln : s.lst ≠ none := by rw [hl]; exact fun z => nomatch z
                obtain ⟨a, ys, c1, c2, c3⟩ := (R2.slots i s hs).adr ln
                rw [k1] at c1
                cases c1
                have hd : DAll (Hid M2 H2) ys ds := by
                  have h3 := R2.slots i s hs
                  cases s with
                  | un => cases hl
                  | fix v => cases hl
                  | d x => cases hl
                  | own es =>
                    obtain ⟨a', ys', b1, _, b3, b4, _⟩ := h3
                    rw [k1] at b1
                    cases b1
                    rw [c3] at b3
                    cases b3
                    cases hl
                    exact b4
                  | par es =>
                    obtain ⟨a', ys', b1, _, b3, b4, _⟩ := h3
                    rw [k1] at b1
                    cases b1
                    rw [c3] at b3
                    cases b3
                    cases hl
                    exact b4
                obtain ⟨a1, a2⟩ := R2.store hs hl k1 (hd.set n (DA.same k (s1.trans s2).vis))
                refine ⟨a, ys, m, n, rfl, rfl, c3, by rw [hd.length]; exact e4, q M2 σ _ a1 ((s1.trans s2).trans ⟨a2, fun b zs m e nt ns => ⟨m, ?_⟩, fun b ns j u hj l => ?_, fun b nb => ?_⟩) fun _ _ => rfl⟩
                · have c : b ≠ a := fun z => by
                    subst z
                    exact ns i s hs ln k1
                  rw [upd_ne c]
                  exact e
                · rcases set_get hj with ⟨rfl, rfl⟩ | ⟨_, h2⟩
                  · exact ns _ s hs ln
                  · exact ns j u h2 l
                · by_cases c : b = a
                  · subst c
                    exact (noT_none' nb upd_same rfl).elim
                  · rw [noT_ne c] at nb
                    exact nb
            · cases e3
          · cases e3
        · cases e3
  · cases e
end
end Cb

end

section
set_option maxRecDepth 100000
set_option maxHeartbeats 4000000
set_option autoImplicit false
/-! Pf, part E: what a loop walks; for, while, comprehensions. -/
namespace Cb
open PySem PySem.Spec PyProof.Rows L2
/-- the iterator hands out these data, one after another -/
def Walks (K : PySem.W.Frag) (J : It) (M : List Addr) (H : Hp) (ds : List IV) : Prop := ∀ (i : Nat) (M1 : List Addr) (H1 : Hp), Vis M H M1 H1 → (i = ds.length → J.stop i H1) ∧
  ∀ d, ds[i]? = some d → J.go i H1 ∧ ∀ v H2, J.yld i H1 v H2 → L2.Same H1 H2 ∧ IVOk K M1 H2 v d
def IOk [TC : TabsC] (X : Cx) (tg e : Expr) (F : FM (List IV)) : Prop := ∃ w, PI X tg e w ∧ ∀ (S : Sit) (M : List Addr) (σ : L2.St) (H : Hp) (ρ : List SV) (ds : List IV) (ρ' : List SV), Rel S M σ H ρ → F ρ = some (ds, ρ') →
  ∀ R : It → Hp → Prop, (∀ M' H' J, Rel S M' σ H' ρ' → Tr σ M H ρ M' H' ρ' → Walks X.K J M' H' ds → R J H') → w σ H R
def loopF (G : FG) (B : FB) : List IV → FB
  | [], ρ => some (.nx ρ)
  | d :: ds, ρ => match G d ρ with
    | none => none
    | some ρ1 => match B ρ1 with
      | some (.nx ρ2) => loopF G B ds ρ2
      | some (.ct ρ2) => loopF G B ds ρ2
      | some (.bk ρ2) => some (.nx ρ2)
      | some (.rt r ρ2) => some (.rt r ρ2)
      | none => none
def fFor (I : FM (List IV)) (G : FG) (B : FB) : FB := fun ρ => match I ρ with
  | some (ds, ρ1) => loopF G B ds ρ1
  | none => none
theorem get_drop {α : Type} {l : List α} {i : Nat} {d : α} {r : List α} (h : l.drop i = d :: r) : l[i]? = some d ∧ l.drop (i + 1) = r := by
  have h1 : (l.drop i)[0]? = some d := by rw [h]; rfl
  rw [List.getElem?_drop] at h1
  refine ⟨by simpa using h1, ?_⟩
  rw [← List.drop_drop, h]
  rfl
section
variable {X : Cx} {tg e : Expr} {ts : List Nat} {I : FM (List IV)} {G : FG} {B : FB} {T : FM Bool} {sts : List Stmt} {st : Stmt} {pos : Pos}
theorem s_for [TC : TabsC] (hi : IOk X tg e I) (hg : GOk X tg ts G) (hb : BOk X sts B) (mk : ∀ w g t, PI X tg e w → PG X tg g → PSs X sts t → PS X st (tFor w g t)) : SOk X st (fFor I G B) := by
  obtain ⟨w, pw, qw⟩ := hi
  obtain ⟨g, pg, qg⟩ := hg
  obtain ⟨t, pt, qt⟩ := hb
  refine ⟨_, mk w g t pw pg pt, fun S M σ H ρ o R e D q => ?_⟩
  unfold fFor at e
  split at e
  rotate_left
  · cases e
  rename_i ds ρ1 e1
  refine qw S M σ H ρ _ _ R e1 _ fun M1 H1 J R1 t1 wk => ?_
  have q1 := q.later t1.vis
  refine ⟨fun i m σ' H' => m = ds.length - i ∧ ∃ M' ρ', Rel S M' σ' H' ρ' ∧ Vis M1 H1 M' H' ∧ i ≤ ds.length ∧ loopF G B (ds.drop i) ρ' = some o, ⟨ds.length, by simp, M1, ρ1, R1, Vis.refl, Nat.zero_le _, e⟩, ?_⟩
  rintro i m σ' H' ⟨rfl, M', ρ', R', v', hi, el⟩
  obtain ⟨ws, wg⟩ := wk i M' H' v'
  cases hd : ds.drop i with
  | nil =>
    rw [hd] at el
    cases el
    have hi2 : i = ds.length := by
      have := List.drop_eq_nil_iff.mp hd
      omega
    exact .inl ⟨ws hi2, q1 M' σ' H' R' v'⟩
  | cons d r =>
    rw [hd] at el
    obtain ⟨hx, hr⟩ := get_drop hd
    obtain ⟨go, yd⟩ := wg d hx
    have hlt : i < ds.length := (List.getElem?_eq_some_iff.mp hx).1
    refine .inr ⟨go, fun σ2 H2 => ∃ M2 ρ2, Rel S M2 σ2 H2 ρ2 ∧ Vis M1 H1 M2 H2 ∧ loopF G B (ds.drop (i + 1)) ρ2 = some o, fun σ2 H2 ⟨M2, ρ2, a1, a2, a3⟩ => ⟨ds.length - (i + 1), by omega, rfl, M2, ρ2, a1, a2, hlt, a3⟩, fun x H2 hy => ?_⟩
    obtain ⟨sm, iv⟩ := yd x H2 hy
    unfold loopF at el
    split at el
    · cases el
    rename_i ρ2 e2
    refine qg S M' σ' H2 ρ' ρ2 x d (R'.grow sm) iv e2 _ fun M3 σ3 H3 R3 t3 _ => ?_
    have v3 : Vis M1 H1 M3 H3 := L2.Same.trans v' (L2.Same.trans (hid_same sm) t3.vis)
    cases e3 : B ρ2 with
    | none =>
      rw [e3] at el
      cases el
    | some o2 =>
      rw [e3] at el
      refine qt S M3 σ3 H3 ρ2 o2 R3 e3 _ ?_
      cases o2 with
      | nx ρ4 =>
        intro M4 σ4 H4 R4 v4
        exact ⟨M4, ρ4, R4, L2.Same.trans v3 v4, by rw [hr]; exact el⟩
      | ct ρ4 =>
        intro M4 σ4 H4 R4 v4
        exact ⟨M4, ρ4, R4, L2.Same.trans v3 v4, by rw [hr]; exact el⟩
      | bk ρ4 =>
        cases el
        intro M4 σ4 H4 R4 v4
        exact q1 M4 σ4 H4 R4 (L2.Same.trans v3 v4)
      | rt r ρ4 =>
        cases el
        intro M4 σ4 u H4 R4 v4 k4
        exact q1 M4 σ4 u H4 R4 (L2.Same.trans v3 v4) k4
/-! ### while -/
def whileF (T : FM Bool) (B : FB) : Nat → FB
  | 0, _ => none
  | n + 1, ρ => match T ρ with
    | some (false, ρ1) => some (.nx ρ1)
    | some (true, ρ1) => match B ρ1 with
      | some (.nx ρ2) => whileF T B n ρ2
      | some (.ct ρ2) => whileF T B n ρ2
      | some (.bk ρ2) => some (.nx ρ2)
      | some (.rt r ρ2) => some (.rt r ρ2)
      | none => none
    | none => none
theorem s_while [TC : TabsC] (n : Nat) (ht : TOk X e T) (hb : BOk X sts B) (mk : ∀ c t, PT X e c → PSs X sts t → PS X st (tWhile c t)) : SOk X st (whileF T B n) := by
  obtain ⟨c, pc, qc⟩ := ht
  obtain ⟨t, pt, qt⟩ := hb
  refine ⟨_, mk c t pc pt, fun S M σ H ρ o R e D q => ?_⟩
  refine ⟨fun m σ' H' => ∃ M' ρ', Rel S M' σ' H' ρ' ∧ Vis M H M' H' ∧ whileF T B m ρ' = some o, ⟨n, M, ρ, R, Vis.refl, e⟩, ?_⟩
  rintro m σ' H' ⟨M', ρ', R', v', el⟩
  cases m with
  | zero => cases el
  | succ m =>
    unfold whileF at el
    split at el
    · rename_i ρ1 e1
      cases el
      exact qc S M' σ' H' ρ' _ _ R' e1 _ fun M1 H1 R1 t1 => iteF (q M1 σ' H1 R1 (L2.Same.trans v' t1.vis))
    · rename_i ρ1 e1
      refine qc S M' σ' H' ρ' _ _ R' e1 _ fun M1 H1 R1 t1 => iteT ?_
      have v1 := L2.Same.trans v' t1.vis
      refine ⟨fun σ2 H2 => ∃ M2 ρ2, Rel S M2 σ2 H2 ρ2 ∧ Vis M H M2 H2 ∧ whileF T B m ρ2 = some o, fun σ2 H2 h => ⟨m, Nat.lt_succ_self _, h⟩, ?_⟩
      cases e3 : B ρ1 with
      | none =>
        rw [e3] at el
        cases el
      | some o2 =>
        rw [e3] at el
        refine qt S M1 σ' H1 ρ1 o2 R1 e3 _ ?_
        cases o2 with
        | nx ρ4 => exact fun M4 σ4 H4 R4 v4 => ⟨M4, ρ4, R4, L2.Same.trans v1 v4, el⟩
        | ct ρ4 => exact fun M4 σ4 H4 R4 v4 => ⟨M4, ρ4, R4, L2.Same.trans v1 v4, el⟩
        | bk ρ4 =>
          cases el
          exact fun M4 σ4 H4 R4 v4 => q M4 σ4 H4 R4 (L2.Same.trans v1 v4)
        | rt r ρ4 =>
          cases el
          exact fun M4 σ4 u H4 R4 v4 k4 => q M4 σ4 u H4 R4 (L2.Same.trans v1 v4) k4
    · cases el
/-! ### comprehensions -/
/-- the slots of a comprehension's names forgotten -/
def wipeR (ρ : List SV) : List Nat → List SV
  | [] => ρ
  | v :: vs => (wipeR ρ vs).set v .un
/-- .. and told again -/
def restR (ρ0 ρ : List SV) : List Nat → List SV
  | [] => ρ
  | v :: vs => match (restR ρ0 ρ vs)[v]? with
    | some s => if isPar s = true then restR ρ0 ρ vs else (restR ρ0 ρ vs).set v (match ρ0[v]? with
      | some (.d x) => .d x
      | _ => .un)
    | none => restR ρ0 ρ vs
theorem wipeR_len {ρ : List SV} : ∀ {vs : List Nat}, (wipeR ρ vs).length = ρ.length
  | [] => rfl
  | v :: vs => by
    unfold wipeR
    rw [List.length_set, wipeR_len]
theorem wipeR_get {ρ : List SV} {i : Nat} {s : SV} : ∀ {vs : List Nat}, (wipeR ρ vs)[i]? = some s → s = .un ∨ (i ∉ vs ∧ ρ[i]? = some s)
  | [], h => .inr ⟨(fun z => nomatch z), h⟩
  | v :: vs, h => by
    rcases set_get h with ⟨_, rfl⟩ | ⟨n, h2⟩
    · exact .inl rfl
    · rcases wipeR_get h2 with z | ⟨z1, z2⟩
      · exact .inl z
      · refine .inr ⟨fun m => ?_, z2⟩
        rcases List.mem_cons.mp m with q | q
        · exact n q
        · exact z1 q
theorem wipeR_out {ρ : List SV} {i : Nat} : ∀ {vs : List Nat}, i ∉ vs → (wipeR ρ vs)[i]? = ρ[i]?
  | [], _ => rfl
  | v :: vs, h => by
    unfold wipeR
    rw [List.getElem?_set_ne (fun z => h (by rw [← z]; exact List.mem_cons_self))]
    exact wipeR_out fun m => h (List.mem_cons_of_mem _ m)
theorem wipe_out {σ : L2.St} {i : Nat} : ∀ {vs : List Nat}, i ∉ vs → (wipe σ vs)[i]? = σ[i]?
  | [], _ => rfl
  | v :: vs, h => by
    unfold wipe
    rw [List.getElem?_set_ne (fun z => h (by rw [← z]; exact List.mem_cons_self))]
    exact wipe_out fun m => h (List.mem_cons_of_mem _ m)
/-- no slot of vs is a list that came in -/
def freeOf (ρ : List SV) (vs : List Nat) : Bool := vs.all fun v => match ρ[v]? with
  | some (.par _) => false
  | _ => true
section
variable {S : Sit} {M M' : List Addr} {σ σ' : L2.St} {H H' : Hp} {ρ ρ' ρ0 : List SV} {vs : List Nat}
theorem freeOf_par (f : freeOf ρ vs = true) {i : Nat} {ds : List PyData} (h : ρ[i]? = some (.par ds)) : i ∉ vs := fun m => by
  have := List.all_eq_true.mp f i m
  rw [h] at this
  cases this
theorem slot_re {i : Nat} {s : SV} (h : SlotOk S M σ H i s) (g : σ'[i]? = σ[i]?) : SlotOk S M σ' H i s := by
  cases s <;> first | exact h | (dsimp only [SlotOk] at h ⊢; rw [g]; exact h)
/-- the slots of vs told nothing of: whatever they hold -/
theorem Rel.wiped [TC : TabsC] (R : Rel S M σ H ρ) (f : freeOf ρ vs = true) (hs : ∀ i, i ∉ vs → σ'[i]? = σ[i]?) (hl : σ'.length = σ.length) : Rel S M σ' H (wipeR ρ vs) where
  ok := R.ok
  len := by rw [wipeR_len, hl]; exact R.len
  sub := R.sub
  al := R.al
  out := R.out
  slots := fun i s h => by
    rcases wipeR_get h with rfl | ⟨h1, h2⟩
    · trivial
    · exact slot_re (R.slots i s h2) (hs i h1)
  inj := fun i j s t a h1 h2 l1 l2 g1 g2 => by
    rcases wipeR_get h1 with rfl | ⟨n1, h1⟩
    · exact absurd rfl l1
    rcases wipeR_get h2 with rfl | ⟨n2, h2⟩
    · exact absurd rfl l2
    rw [hs i n1] at g1
    rw [hs j n2] at g2
    exact R.inj i j s t a h1 h2 l1 l2 g1 g2
  pars := fun p m => by
    obtain ⟨ds, h⟩ := R.pars p m
    exact ⟨ds, by rw [wipeR_out (freeOf_par f h)]; exact h⟩
  tabs := R.tabs
theorem NS.wiped {a : Addr} (n : NS σ ρ a) (hs : ∀ i, i ∉ vs → σ'[i]? = σ[i]?) : NS σ' (wipeR ρ vs) a := fun i s h l => by
  rcases wipeR_get h with rfl | ⟨h1, h2⟩
  · exact absurd rfl l
  · rw [hs i h1]
    exact n i s h2 l
theorem Tr2.wiped (hs : ∀ i, i ∉ vs → σ'[i]? = σ[i]?) : Tr2 σ M H ρ σ' M H (wipeR ρ vs) := ⟨Vis.refl, fun _ _ m e _ _ => ⟨m, e⟩, fun a n => n.wiped hs, fun _ n => n⟩
theorem restR_rel [TC : TabsC] (R0 : Rel S M σ' H ρ0) (hs : ∀ i ∈ vs, σ'[i]? = σ[i]?) (v : Vis M H M' H') : ∀ {ws : List Nat}, (∀ i ∈ ws, i ∈ vs) → Rel S M' σ H' ρ → Rel S M' σ H' (restR ρ0 ρ ws)
  | [], _, R => R
  | w :: ws, f, R => by
    have R1 := restR_rel R0 hs v (ws := ws) (fun i m => f i (List.mem_cons_of_mem _ m)) R
    unfold restR
    split
    · rename_i s hw
      split
      · exact R1
      · rename_i np
        refine R1.tell hw (fun ds z => np (by rw [z]; rfl)) ?_ ?_
        · split
          · rename_i x e
            obtain ⟨u, a1, a2⟩ := R0.slots w _ e
            exact ⟨u, by rw [← hs w (f w List.mem_cons_self)]; exact a1, a2.same v⟩
          · trivial
        · split <;> rfl
    · exact R1
theorem restR_ns {a : Addr} (n : NS σ ρ a) : ∀ {ws : List Nat}, NS σ (restR ρ0 ρ ws) a
  | [] => n
  | w :: ws => by
    unfold restR
    split
    · split
      · exact restR_ns n
      · exact (restR_ns n).set (by split <;> rfl)
    · exact restR_ns n
end
end
end Cb

end

section
set_option maxRecDepth 100000
set_option maxHeartbeats 4000000
set_option autoImplicit false
/-! Pf, part F: list comprehensions of one clause. -/
namespace Cb
open PySem PySem.Spec PyProof.Rows L2
/-! ### the same reading in many contexts -/
def RdO [TC : TabsC] (K : PySem.W.Frag) (F : FM RV) (t : TE) : Prop := ∀ (S : Sit) (M : List Addr) (σ : L2.St) (H : Hp) (ρ : List SV) (r : RV) (ρ' : List SV), Rel S M σ H ρ → F ρ = some (r, ρ') →
  ∀ Q : VK, (∀ M' v H', Rel S M' σ H' ρ' → Tr σ M H ρ M' H' ρ' → RVOk K H M' σ H' ρ' v r → Q v H') → t σ H Q
def RdT [TC : TabsC] (F : FM Bool) (t : TT) : Prop := ∀ (S : Sit) (M : List Addr) (σ : L2.St) (H : Hp) (ρ : List SV) (b : Bool) (ρ' : List SV), Rel S M σ H ρ → F ρ = some (b, ρ') →
  ∀ Q : Bool → Hp → Prop, (∀ M' H', Rel S M' σ H' ρ' → Tr σ M H ρ M' H' ρ' → Q b H') → t σ H Q
def RdG [TC : TabsC] (K : PySem.W.Frag) (ts : List Nat) (G : FG) (g : TG) : Prop := ∀ (S : Sit) (M : List Addr) (σ : L2.St) (H : Hp) (ρ ρ' : List SV) (v : V) (d : IV), Rel S M σ H ρ → IVOk K M H v d → G d ρ = some ρ' →
  ∀ Q : L2.St → Hp → Prop, (∀ M' σ' H', Rel S M' σ' H' ρ' → Tr2 σ M H ρ σ' M' H' ρ' → (∀ vs : List Nat, (∀ t ∈ ts, t ∈ vs) → wipe σ' vs = wipe σ vs) → Q σ' H') → g v σ H Q
def TsOk [TC : TabsC] (X : Cx) (ifs : List Expr) (F : FM Bool) : Prop := ∃ t, PTs X ifs t ∧ RdT F t
theorem ts_nil [TC : TabsC] {X : Cx} : TsOk X [] (fpure true) := ⟨_, pts_nil, fun S M σ H ρ b ρ' R e Q q => by
  cases e
  exact q M H R Tr2.refl⟩
section
variable {ι : Type} {Xf : ι → Cx} {K : PySem.W.Frag}
theorem uni_o [TC : TabsC] {e : Expr} {F : FM RV} (hK : ∀ i, (Xf i).K = K) (h : ∀ i, OOk (Xf i) e F) : ∃ t, (∀ i, PE (Xf i) e t) ∧ RdO K F t :=
  ⟨fun σ H Q => ∀ i, (h i).choose σ H Q, fun i => PE.imp (h i).choose_spec.1 fun _ _ _ z => z i, fun S M σ H ρ r ρ' R e Q q i => (h i).choose_spec.2 S M σ H ρ r ρ' R e Q fun M' v H' a b c => q M' v H' a b (by rw [← hK i]; exact c)⟩
theorem uni_ts [TC : TabsC] {es : List Expr} {F : FM Bool} (h : ∀ i, TsOk (Xf i) es F) : ∃ t, (∀ i, PTs (Xf i) es t) ∧ RdT F t :=
  ⟨fun σ H Q => ∀ i, (h i).choose σ H Q, fun i => ⟨fun pins s σ H Q I z => (h i).choose_spec.1.run pins s σ H Q I (z i)⟩, fun S M σ H ρ r ρ' R e Q q i => (h i).choose_spec.2 S M σ H ρ r ρ' R e Q q⟩
theorem uni_g [TC : TabsC] {e : Expr} {ts : List Nat} {G : FG} (hK : ∀ i, (Xf i).K = K) (h : ∀ i, GOk (Xf i) e ts G) : ∃ g, (∀ i, PG (Xf i) e g) ∧ RdG K ts G g :=
  ⟨fun v σ H Q => ∀ i, (h i).choose v σ H Q, fun i => ⟨fun pins s σ H v u Q I r z => (h i).choose_spec.1.run pins s σ H v u Q I r (z i)⟩, fun S M σ H ρ ρ' v d R k e Q q i => (h i).choose_spec.2 S M σ H ρ ρ' v d R (by rw [hK i]; exact k) e Q q⟩
end
section
variable {S : Sit} {M M0 : List Addr} {σ σ0 : L2.St} {H H0 : Hp} {ρ ρ0 : List SV} {D : Addr} {ys zs : List V}
/-- a hidden list that no slot holds changes -/
theorem Rel.updH [TC : TabsC] {o u : HO} (R : Rel S M σ H ρ) (m : D ∈ M) (h : H D = some o) (ho : hidable o = true) (hu : hidable u = true) (n : NS σ ρ D) (h0 : S.H0 D = none) : Rel S M σ (upd H D u) ρ := by
  refine R.move (hid_updH m h ho) R.sub (fun a ma => ?_) (fun b o k e => ?_) (fun i s a xs e l g h2 => ?_) (TC.up R.tabs (.upd h ho))
  · by_cases c : a = D
    · subst c
      exact ⟨u, upd_same, hu⟩
    · rw [upd_ne c]
      exact R.al a ma
  · have c : b ≠ D := fun z => by
      subst z
      rw [h0] at e
      cases e
    rw [upd_ne c]
    exact R.out b o k e
  · have c : a ≠ D := fun z => by
      subst z
      exact n i s e l g
    obtain ⟨b, xs2, k1, k2, k3⟩ := (R.slots i s e).adr l
    rw [g] at k1
    cases k1
    exact ⟨k2, by rw [upd_ne c]; exact h2⟩
theorem Rel.updT [TC : TabsC] (R : Rel S M σ H ρ) (m : D ∈ M) (h : H D = some (.lst ys)) (n : NS σ ρ D) (h0 : S.H0 D = none) : Rel S M σ (upd H D (.lst zs)) ρ := R.updH m h rfl rfl n h0
theorem Tr2.updH {o u : HO} (t : Tr2 σ0 M0 H0 ρ0 σ M H ρ) (n : noT H0 D = none) (m : D ∈ M) (h : H D = some o) (ho : hidable o = true) : Tr2 σ0 M0 H0 ρ0 σ M (upd H D u) ρ := by
  refine ⟨L2.Same.trans t.vis (hid_updH m h ho), fun a xs ma e nt na => ?_, t.sl, fun a na => ?_⟩
  · obtain ⟨k1, k2⟩ := t.kp a xs ma e nt na
    have c : a ≠ D := fun z => by
      subst z
      exact noT_none' n e nt
    exact ⟨k1, by rw [upd_ne c]; exact k2⟩
  · by_cases c : a = D
    · subst c
      exact n
    · rw [noT_ne c] at na
      exact t.fr a na
theorem Tr2.updT (t : Tr2 σ0 M0 H0 ρ0 σ M H ρ) (n : noT H0 D = none) (m : D ∈ M) (h : H D = some (.lst ys)) : Tr2 σ0 M0 H0 ρ0 σ M (upd H D (.lst zs)) ρ := t.updH n m h rfl
theorem freeOf_rel [TC : TabsC] {M' : List Addr} {σ' : L2.St} {H' : Hp} {ρ' : List SV} {vs : List Nat} (R : Rel S M σ H ρ) (R' : Rel S M' σ' H' ρ') (f : freeOf ρ vs = true) : freeOf ρ' vs = true := by
  refine List.all_eq_true.mpr fun v m => ?_
  split
  · rename_i ds e
    obtain ⟨a, ys, _, _, _, _, hC⟩ := R'.slots v _ e
    obtain ⟨es, e2⟩ := R.pars _ hC
    exact absurd m (freeOf_par f e2)
  · rfl
end
/-! ### what a comprehension makes -/
def compF (G : FG) (T : FM Bool) (E : FM RV) (vs : List Nat) : List IV → List PyData → List SV → Option (List PyData × List SV)
  | [], acc, ρ => some (acc, ρ)
  | d :: ds, acc, ρ => match G d ρ with
    | none => none
    | some ρ1 => match T ρ1 with
      | some (true, ρ2) => match E ρ2 with
        | some (.dat x, ρ3) => compF G T E vs ds (acc ++ [x]) (wipeR ρ3 vs)
        | _ => none
      | some (false, ρ2) => compF G T E vs ds acc (wipeR ρ2 vs)
      | none => none
def fLc (I : FM (List IV)) (G : FG) (T : FM Bool) (E : FM RV) (vs : List Nat) : FM RV := fun ρ => match I ρ with
  | some (ds, ρ1) => if (freeOf ρ1 vs && decide (ds.length ≤ 4000000)) = true then (match compF G T E vs ds [] (wipeR ρ1 vs) with
    | some (out, ρ2) => some (.new out, restR ρ1 (wipeR ρ2 vs) vs)
    | none => none) else none
  | none => none
theorem wipe_back {σ σ2 : L2.St} {vs : List Nat} (h : wipe σ2 vs = wipe σ vs) : ∀ i, i ∉ vs → (wipe σ vs)[i]? = σ2[i]? := fun i n => by rw [← h, wipe_out n]
theorem lc_read [TC : TabsC] {K : PySem.W.Frag} {wi : TI} {g : TG} {tt : TT} {te : TE} {vs ts : List Nat} {I : FM (List IV)} {G : FG} {T : FM Bool} {E : FM RV}
    (qi : ∀ (S : Sit) (M : List Addr) (σ : L2.St) (H : Hp) (ρ : List SV) (ds : List IV) (ρ' : List SV), Rel S M σ H ρ → I ρ = some (ds, ρ') → ∀ R : It → Hp → Prop, (∀ M' H' J, Rel S M' σ H' ρ' → Tr σ M H ρ M' H' ρ' → Walks K J M' H' ds → R J H') → wi σ H R)
    (qg : RdG K ts G g) (qt : RdT T tt) (qe : RdO K E te) (hts : ∀ t ∈ ts, t ∈ vs) : RdO K (fLc I G T E vs) (tLc wi g tt te vs) := by
  intro S M σ H ρ r ρ' R e Q q
  unfold fLc at e
  split at e
  rotate_left
  · cases e
  rename_i ds ρ1 e1
  split at e
  rotate_left
  · cases e
  rename_i hfl
  have hfl := Bool.and_eq_true_iff.mp hfl
  have hf := hfl.1
  have hn : ds.length ≤ 4000000 := of_decide_eq_true hfl.2
  split at e
  rotate_left
  · cases e
  rename_i out ρE ec
  cases e
  refine qi S M σ H ρ _ _ R e1 _ fun M1 H1 J R1 t1 wk => ?_
  intro D hD
  have hD0 : noT H D = none := t1.fr D (noT_none hD)
  have hS0 : S.H0 D = none := R.freshN hD0
  have wl : (wipe σ vs).length = σ.length := wipe_length σ vs
  have wo : ∀ i, i ∉ vs → (wipe σ vs)[i]? = σ[i]? := fun i n => wipe_out n
  have sD := same_upd (o := .lst []) hD
  have R2 : Rel S (D :: M1) (wipe σ vs) (upd H1 D (.lst [])) (wipeR ρ1 vs) := (R1.newl sD hD upd_same).wiped hf wo wl
  have t2 : Tr2 σ M H ρ (wipe σ vs) (D :: M1) (upd H1 D (.lst [])) (wipeR ρ1 vs) := (t1.trans (Tr2.newl sD hD)).trans (Tr2.wiped wo)
  refine ⟨fun i m H' => m = ds.length - i ∧ ∃ M' ρ' acc accV, Rel S M' (wipe σ vs) H' ρ' ∧ Tr2 σ M H ρ (wipe σ vs) M' H' ρ' ∧ Vis M1 H1 M' H' ∧ D ∈ M' ∧ H' D = some (.lst accV) ∧ DAll (Hid M' H') accV acc ∧ NS (wipe σ vs) ρ' D ∧ acc.length ≤ i ∧ i ≤ ds.length ∧ compF G T E vs (ds.drop i) acc ρ' = some (out, ρE),
    ⟨ds.length, by simp, D :: M1, wipeR ρ1 vs, [], [], R2, t2, hid_cons sD hD, List.mem_cons_self, upd_same, .nil, NS.wiped (R1.notSlot hD) wo, Nat.zero_le _, Nat.zero_le _, ec⟩, ?_⟩
  rintro i m H' ⟨rfl, M', ρ', acc, accV, R', t', v', mD, hDl, hacc, nsD, la, li, el⟩
  obtain ⟨ws, wg⟩ := wk i M' H' v'
  cases hd : ds.drop i with
  | nil =>
    rw [hd] at el
    cases el
    have hi2 : i = ds.length := by
      have := List.drop_eq_nil_iff.mp hd
      omega
    refine .inl ⟨ws hi2, ?_⟩
    have f' := freeOf_rel R1 R' hf
    have wo2 : ∀ i, i ∉ vs → σ[i]? = (wipe σ vs)[i]? := fun i n => (wipe_out n).symm
    have R3 : Rel S M' σ H' (wipeR ρE vs) := R'.wiped f' wo2 wl.symm
    have R4 : Rel S M' σ H' (restR ρ1 (wipeR ρE vs) vs) := restR_rel (ρ0 := ρ1) R1 (fun _ _ => rfl) v' (fun _ m => m) R3
    refine q M' _ H' R4 ?_ ⟨D, accV, rfl, mD, hDl, hacc, hD0, restR_ns (NS.wiped nsD wo2)⟩
    have t3 := t'.trans (Tr2.wiped (vs := vs) wo2)
    exact ⟨t3.vis, t3.kp, fun a n => restR_ns (t3.sl a n), t3.fr⟩
  | cons d rest =>
    rw [hd] at el
    obtain ⟨hx, hr⟩ := get_drop hd
    obtain ⟨go, yd⟩ := wg d hx
    have hlt : i < ds.length := (List.getElem?_eq_some_iff.mp hx).1
    refine .inr ⟨go, fun H' => ∃ M' ρ' acc accV, Rel S M' (wipe σ vs) H' ρ' ∧ Tr2 σ M H ρ (wipe σ vs) M' H' ρ' ∧ Vis M1 H1 M' H' ∧ D ∈ M' ∧ H' D = some (.lst accV) ∧ DAll (Hid M' H') accV acc ∧ NS (wipe σ vs) ρ' D ∧ acc.length ≤ i + 1 ∧ compF G T E vs (ds.drop (i + 1)) acc ρ' = some (out, ρE),
      fun H' ⟨M', ρ9, acc, accV, a1, a2, a3, a4, a5, a6, a7, a8, a9⟩ => ⟨ds.length - (i + 1), by omega, rfl, M', ρ9, acc, accV, a1, a2, a3, a4, a5, a6, a7, a8, hlt, a9⟩, fun x H2 hy => ?_⟩
    obtain ⟨sm, iv⟩ := yd x H2 hy
    unfold compF at el
    split at el
    · cases el
    rename_i ρ2 e2
    have tg : Tr2 (wipe σ vs) M' H' ρ' (wipe σ vs) M' H2 ρ' := Tr2.grow sm
    refine qg S M' (wipe σ vs) H2 ρ' ρ2 x d (R'.grow sm) iv e2 _ fun M3 σ3 H3 R3 t3 w3 => ?_
    have hw : wipe σ3 vs = wipe σ vs := by
      rw [w3 vs hts]
      exact wipe_wipe
    refine ⟨hw, ?_⟩
    have t4 := tg.trans t3
    split at el
    · -- the test holds
      rename_i ρ3 e3
      refine qt S M3 σ3 H3 ρ2 true ρ3 R3 e3 _ fun M4 H4 R4 t5 => iteT ?_
      split at el
      · rename_i y ρ4 e4
        refine qe S M4 σ3 H4 ρ3 _ ρ4 R4 e4 _ fun M5 v5 H5 R5 t6 k6 => ?_
        have t7 := (t4.trans t5).trans t6
        obtain ⟨m5, d5⟩ := t7.kp D _ mD hDl rfl nsD
        have ns5 := t7.sl D nsD
        have hacc5 := hacc.same t7.vis
        refine ⟨accV, d5, by rw [hacc5.length]; exact Nat.lt_of_le_of_lt (m := 4000000) (by omega) (by decide), ?_⟩
        have R6 := R5.updT (zs := accV ++ [v5]) m5 d5 ns5 hS0
        have tt7 := t'.trans t7
        have t8 := tt7.updT (zs := accV ++ [v5]) hD0 m5 d5
        have hwo := wipe_back hw
        have hwl : (wipe σ vs).length = σ3.length := by rw [← hw, wipe_length]
        have f6 := freeOf_rel R1 R6 hf
        have v8 : Vis M5 H5 M5 (upd H5 D (.lst (accV ++ [v5]))) := hid_upd m5 d5
        refine ⟨M5, wipeR ρ4 vs, acc ++ [y], accV ++ [v5], R6.wiped f6 hwo hwl, t8.trans (Tr2.wiped hwo), L2.Same.trans v' (L2.Same.trans t7.vis v8), m5, upd_same, (hacc5.app (.cons k6 .nil)).same v8, NS.wiped ns5 hwo, by rw [List.length_append]; simp only [List.length_cons, List.length_nil]; omega, by rw [hr]; exact el⟩
      · cases el
    · rename_i ρ3 e3
      refine qt S M3 σ3 H3 ρ2 false ρ3 R3 e3 _ fun M4 H4 R4 t5 => iteF ?_
      have t7 := t4.trans t5
      obtain ⟨m5, d5⟩ := t7.kp D _ mD hDl rfl nsD
      have hwo := wipe_back hw
      have hwl : (wipe σ vs).length = σ3.length := by rw [← hw, wipe_length]
      have f6 := freeOf_rel R1 R4 hf
      exact ⟨M4, wipeR ρ3 vs, acc, accV, R4.wiped f6 hwo hwl, (t'.trans t7).trans (Tr2.wiped hwo), L2.Same.trans v' t7.vis, m5, d5, hacc.same t7.vis, NS.wiped (t7.sl D nsD) hwo, by omega, by rw [hr]; exact el⟩
    · cases el
where
  wipe_wipe {σ : L2.St} : ∀ {vs : List Nat}, wipe (wipe σ vs) vs = wipe σ vs := fun {vs} => by
    apply List.ext_getElem?
    intro i
    by_cases c : i ∈ vs
    · have h1 : ∀ (τ : L2.St) (ws : List Nat), i ∈ ws → (wipe τ ws)[i]? = if i < τ.length then some none else none := fun τ ws => by
        induction ws with
        | nil => intro h; cases h
        | cons w ws ih =>
          intro h
          unfold wipe
          by_cases d : i = w
          · subst d
            rw [List.getElem?_set]
            simp [wipe_length]
          · rw [List.getElem?_set_ne (Ne.symm d)]
            rcases List.mem_cons.mp h with z | z
            · exact absurd z d
            · exact ih z
      rw [h1 _ vs c, h1 _ vs c, wipe_length]
    · rw [wipe_out c]
section
variable {X : Cx} {elt tg iter : Expr} {ifs : List Expr} {scope : Scope} {own : List (Str × Nat)} {pos spos : Pos} {ts : List Nat} {I : FM (List IV)} {G : FG} {T : FM Bool} {E : FM RV} {st : Stmt}
theorem lc_parts [TC : TabsC] (hi : IOk X tg iter I)
    (hg : ∀ (s : Shared) (H : Hp) (C : Addr) (cl : List (Str × Addr)) (fp : List Addr), GOk (X.blk s H scope (compEnvC scope cl C X.env) fp) tg ts G)
    (ht : ∀ (s : Shared) (H : Hp) (C : Addr) (cl : List (Str × Addr)) (fp : List Addr), TsOk (X.blk s H scope (compEnvC scope cl C X.env) fp) ifs T)
    (he : ∀ (s : Shared) (H : Hp) (C : Addr) (cl : List (Str × Addr)) (fp : List Addr), OOk (X.blk s H scope (compEnvC scope cl C X.env) fp) elt E)
    (hts : ∀ t ∈ ts, t ∈ own.map (·.2)) :
    ∃ wi g tt te, PI X tg iter wi ∧ (∀ (s : Shared) (H : Hp) (C : Addr) (cl : List (Str × Addr)) (fp : List Addr), PG (X.blk s H scope (compEnvC scope cl C X.env) fp) tg g) ∧
      (∀ (s : Shared) (H : Hp) (C : Addr) (cl : List (Str × Addr)) (fp : List Addr), PTs (X.blk s H scope (compEnvC scope cl C X.env) fp) ifs tt) ∧
      (∀ (s : Shared) (H : Hp) (C : Addr) (cl : List (Str × Addr)) (fp : List Addr), PE (X.blk s H scope (compEnvC scope cl C X.env) fp) elt te) ∧ RdO X.K (fLc I G T (fDat E) (own.map (·.2))) (tLc wi g tt te (own.map (·.2))) := by
  obtain ⟨wi, pi, qi⟩ := hi
  let ι := Shared × Hp × Addr × List (Str × Addr) × List Addr
  let Xf : ι → Cx := fun x => X.blk x.1 x.2.1 scope (compEnvC scope x.2.2.2.1 x.2.2.1 X.env) x.2.2.2.2
  have hK : ∀ i, (Xf i).K = X.K := fun _ => rfl
  obtain ⟨g, pg, qg⟩ := uni_g (Xf := Xf) (K := X.K) hK fun i => hg i.1 i.2.1 i.2.2.1 i.2.2.2.1 i.2.2.2.2
  obtain ⟨tt, pt, qt⟩ := uni_ts (Xf := Xf) fun i => ht i.1 i.2.1 i.2.2.1 i.2.2.2.1 i.2.2.2.2
  obtain ⟨te, pe, qe⟩ := uni_o (Xf := Xf) (K := X.K) hK fun i => o_dat (he i.1 i.2.1 i.2.2.1 i.2.2.2.1 i.2.2.2.2)
  exact ⟨wi, g, tt, te, pi, fun s H C cl fp => pg (s, H, C, cl, fp), fun s H C cl fp => pt (s, H, C, cl, fp), fun s H C cl fp => pe (s, H, C, cl, fp), lc_read qi qg qt qe hts⟩
theorem o_lc [TC : TabsC] (hc : X.calm = true) (hN : X.N.Nodup) (hi : IOk X tg iter I) (ok : BlkOk X.N X.env.scope scope own)
    (hg : ∀ (s : Shared) (H : Hp) (C : Addr) (cl : List (Str × Addr)) (fp : List Addr), GOk (X.blk s H scope (compEnvC scope cl C X.env) fp) tg ts G)
    (ht : ∀ (s : Shared) (H : Hp) (C : Addr) (cl : List (Str × Addr)) (fp : List Addr), TsOk (X.blk s H scope (compEnvC scope cl C X.env) fp) ifs T)
    (he : ∀ (s : Shared) (H : Hp) (C : Addr) (cl : List (Str × Addr)) (fp : List Addr), OOk (X.blk s H scope (compEnvC scope cl C X.env) fp) elt E)
    (hts : ∀ t ∈ ts, t ∈ own.map (·.2) := by decide) (hs : ∀ x, foldedSetIterable iter X.env x = pure x := by intro _; rfl) : OOk X (.ListComp elt [⟨tg, iter, ifs, 0⟩] scope pos) (fLc I G T (fDat E) (own.map (·.2))) := by
  obtain ⟨wi, g, tt, te, h1, h2, h3, h4, h5⟩ := lc_parts hi hg ht he hts
  exact ⟨_, pe_lc hc hN h1 ok h2 h3 h4 hs, h5⟩
theorem s_setLc [TC : TabsC] {i : Nat} {y : Str} {py : Pos} (hc : X.calm = true) (hN : X.N.Nodup) (hy : X.N[i]? = some y) (hyl : X.env.scope.names.lookup y = some .local)
    (hsw : swapsWith (.ListComp elt [⟨tg, iter, ifs, 0⟩] scope pos) (some (.Name y py)) spos.line X.env = pure true) (hi : IOk X tg iter I) (ok : BlkOk X.N X.env.scope scope own)
    (hg : ∀ (s : Shared) (H : Hp) (C : Addr) (cl : List (Str × Addr)) (fp : List Addr), GOk (X.blk s H scope (compEnvC scope cl C X.env) fp) tg ts G)
    (ht : ∀ (s : Shared) (H : Hp) (C : Addr) (cl : List (Str × Addr)) (fp : List Addr), TsOk (X.blk s H scope (compEnvC scope cl C X.env) fp) ifs T)
    (he : ∀ (s : Shared) (H : Hp) (C : Addr) (cl : List (Str × Addr)) (fp : List Addr), OOk (X.blk s H scope (compEnvC scope cl C X.env) fp) elt E)
    (hts : ∀ t ∈ ts, t ∈ own.map (·.2) := by decide) (hs : ∀ x, foldedSetIterable iter X.env x = pure x := by intro _; rfl) : SOk X (.Assign [.Name y py] (.ListComp elt [⟨tg, iter, ifs, 0⟩] scope pos) spos) (fSet i (fLc I G T (fDat E) (own.map (·.2)))) := by
  obtain ⟨wi, g, tt, te, h1, h2, h3, h4, h5⟩ := lc_parts hi hg ht he hts
  exact s_set' (ps_setLc hc hN hy hyl hsw h1 ok h2 h3 h4 hs) h5
end
end Cb

end

section
set_option maxRecDepth 100000
set_option maxHeartbeats 4000000
set_option autoImplicit false
/-! Pf, part G: defs of the text: what they promise as functions; their calls. -/
namespace Cb
open PySem PySem.Spec PyProof.Rows L2
theorem hid_in {M : List Addr} {H : Hp} {b : Addr} {o : HO} (m : b ∈ M) (h : H b = some o) (ho : hidable o = true) : Hid M H b = none := by
  unfold Hid
  rw [noT_of h (not_tbl ho)]
  exact if_pos ⟨ho, m⟩
theorem noT_congr {H H' : Hp} {b : Addr} (h : H b = H' b) : noT H b = noT H' b := by
  unfold noT
  rw [h]
theorem hid_congr {M : List Addr} {H H' : Hp} {b : Addr} (h : H b = H' b) : Hid M H b = Hid M H' b := by
  unfold Hid
  rw [noT_congr h]
/-- an argument: a datum; a list that may change -/
inductive AV where
  | dat (x : PyData) | io (ds : List PyData)
/-- a def as a function: what it hands back, what its lists have become -/
abbrev FD := List AV → Option (RD × List (List PyData))
inductive ArgsOk (M : List Addr) (H : Hp) : List V → List AV → Prop
  | nil : ArgsOk M H [] []
  | dat {v : V} {vs : List V} {x : PyData} {as : List AV} : DA (Hid M H) v x → ArgsOk M H vs as → ArgsOk M H (v :: vs) (.dat x :: as)
  | io {a : Addr} {ys : List V} {vs : List V} {ds : List PyData} {as : List AV} : a ∈ M → H a = some (.lst ys) → DAll (Hid M H) ys ds → ArgsOk M H vs as → ArgsOk M H (.ref a :: vs) (.io ds :: as)
def ioA : List V → List AV → List Addr
  | .ref a :: vs, .io _ :: as => a :: ioA vs as
  | _ :: vs, _ :: as => ioA vs as
  | _, _ => []
inductive OutsOk (M : List Addr) (H : Hp) : List Addr → List (List PyData) → Prop
  | nil : OutsOk M H [] []
  | cons {a : Addr} {ys : List V} {l : List Addr} {ds : List PyData} {os : List (List PyData)} : H a = some (.lst ys) → DAll (Hid M H) ys ds → OutsOk M H l os → OutsOk M H (a :: l) (ds :: os)
/-- how a result stands behind the call: H ahead of it, H' behind; M' what is hidden then -/
def RetOk (M M' : List Addr) (H H' : Hp) (v : V) : RD → Prop
  | .dat x => M' = M ∧ DA (Hid M' H') v x
  | .new ds => ∃ a ys, v = .ref a ∧ M' = a :: M ∧ H a = none ∧ H' a = some (.lst ys) ∧ DAll (Hid M' H') ys ds
def spF (D : FD) : Sp := fun vs H Q _ => ∃ (M : List Addr) (as : List AV) (r : RD) (os : List (List PyData)), (∀ a ∈ M, ∃ o, H a = some o ∧ hidable o = true) ∧ ArgsOk M H vs as ∧ (ioA vs as).Nodup ∧ D as = some (r, os) ∧
  ∀ v M' H', (∀ b o, b ∉ ioA vs as → H b = some o → H' b = some o) → OutsOk M' H' (ioA vs as) os → RetOk M M' H H' v r → Q v H'
theorem ArgsOk.length {M : List Addr} {H : Hp} : ∀ {vs : List V} {as : List AV}, ArgsOk M H vs as → vs.length = as.length
  | _, _, .nil => rfl
  | _, _, .dat _ t => congrArg (· + 1) t.length
  | _, _, .io _ _ _ t => congrArg (· + 1) t.length
/-! ### a call -/
def toArg (ρ : List SV) : RV → Option AV
  | .dat x => some (.dat x)
  | .slot i => match ρ[i]? with
    | some (.d x) => some (.dat x)
    | some (.own ds) => some (.io ds)
    | some (.par ds) => some (.io ds)
    | _ => none
  | _ => none
def toArgs (ρ : List SV) : List RV → Option (List AV)
  | [] => some []
  | r :: rs => (toArg ρ r).bind fun a => (toArgs ρ rs).map fun as => a :: as
/-- the slots of the lists that may change -/
def ioS (ρ : List SV) : List RV → List Nat
  | .slot i :: rs => match ρ[i]? with
    | some s => if s.lst.isSome = true then i :: ioS ρ rs else ioS ρ rs
    | none => ioS ρ rs
  | _ :: rs => ioS ρ rs
  | [] => []
def setL (ρ : List SV) (i : Nat) (ds : List PyData) : List SV := match ρ[i]? with
  | some s => if s.lst.isSome = true then ρ.set i (s.put ds) else ρ
  | none => ρ
def setOuts : List SV → List Nat → List (List PyData) → Option (List SV)
  | ρ, [], [] => some ρ
  | ρ, i :: is, ds :: os => setOuts (setL ρ i ds) is os
  | _, _, _ => none
def rdRV : RD → RV
  | .dat x => .dat x
  | .new ds => .new ds
def fOwn (D : FD) (A : FM (List RV)) : FM RV := fbind A fun rs => fun ρ => match toArgs ρ rs with
  | some as => match D as with
    | some (r, os) => if (ioS ρ rs).Nodup then (setOuts ρ (ioS ρ rs) os).map fun ρ' => (rdRV r, ρ') else none
    | none => none
  | none => none
section
variable {S : Sit} {K : PySem.W.Frag} {M : List Addr} {σ : L2.St} {H Hs H' : Hp} {ρ ρ' : List SV}
theorem args_of [TC : TabsC] (R : Rel S M σ H ρ) : ∀ {vs : List V} {rs : List RV} {as : List AV}, AllRV K Hs M σ H ρ vs rs → toArgs ρ rs = some as → ArgsOk M H vs as ∧ (ioA vs as).length = (ioS ρ rs).length ∧ ∀ (j : Nat) (i : Nat) (a : Addr), (ioS ρ rs)[j]? = some i → (ioA vs as)[j]? = some a → σ[i]? = some (some (.ref a)) ∧ ∃ s, ρ[i]? = some s ∧ s.lst ≠ none
  | _, _, as, .nil, e => by
    cases e
    exact ⟨.nil, rfl, fun j i a h => by simp [ioS] at h⟩
  | _, _, as, .cons (v := v) (vs := vs) (r := r) (rs := rs) h t, e => by
    unfold toArgs at e
    cases e1 : toArg ρ r with
    | none =>
      rw [e1] at e
      cases e
    | some a =>
      rw [e1] at e
      cases e2 : toArgs ρ rs with
      | none =>
        rw [e2] at e
        cases e
      | some as2 =>
        rw [e2] at e
        cases e
        obtain ⟨i1, i2, i3⟩ := args_of R t e2
        cases r with
        | dat x =>
          cases e1
          exact ⟨.dat h i1, by show (ioA (v :: vs) (.dat x :: as2)).length = _; rw [show ioA (v :: vs) (.dat x :: as2) = ioA vs as2 by cases v <;> rfl]; exact i2, by rw [show ioA (v :: vs) (.dat x :: as2) = ioA vs as2 by cases v <;> rfl]; exact i3⟩
        | slot i =>
          have h : σ[i]? = some (some v) := h
          unfold toArg at e1
          dsimp only at e1
          have io : ∀ (s : SV) (ds : List PyData), ρ[i]? = some s → s.lst = some ds → a = .io ds → ArgsOk M H (v :: vs) (a :: as2) ∧ (ioA (v :: vs) (a :: as2)).length = (ioS ρ (.slot i :: rs)).length ∧ ∀ (j : Nat) (k : Nat) (b : Addr), (ioS ρ (.slot i :: rs))[j]? = some k → (ioA (v :: vs) (a :: as2))[j]? = some b → σ[k]? = some (some (.ref b)) ∧ ∃ s, ρ[k]? = some s ∧ s.lst ≠ none := fun s ds es l ea => by
            subst ea
            have ln : s.lst ≠ none := by rw [l]; exact fun z => nomatch z
            obtain ⟨p, ys, k1, k2, k3⟩ := (R.slots i s es).adr ln
            rw [h] at k1
            cases k1
            have hd : DAll (Hid M H) ys ds := by
              have h3 := R.slots i s es
              cases s with
              | un => cases l
              | fix v => cases l
              | d x => cases l
              | own es =>
                obtain ⟨a', ys', b1, _, b3, b4, _⟩ := h3
                rw [h] at b1
                cases b1
                rw [k3] at b3
                cases b3
                cases l
                exact b4
              | par es =>
                obtain ⟨a', ys', b1, _, b3, b4, _⟩ := h3
                rw [h] at b1
                cases b1
                rw [k3] at b3
                cases b3
                cases l
                exact b4
            have es2 : ioS ρ (.slot i :: rs) = i :: ioS ρ rs := by
              show (match ρ[i]? with
                | some s => if s.lst.isSome = true then i :: ioS ρ rs else ioS ρ rs
                | none => ioS ρ rs) = _
              rw [es]
              dsimp only
              rw [l]
              rfl
            rw [es2]
            refine ⟨.io k2 k3 hd i1, congrArg (· + 1) i2, fun j k b g1 g2 => ?_⟩
            cases j with
            | zero =>
              cases g1
              cases g2
              exact ⟨h, s, es, ln⟩
            | succ j => exact i3 j k b g1 g2
          split at e1
          · rename_i x ex
            cases e1
            obtain ⟨w, h1, h2⟩ := R.slots i _ ex
            rw [h] at h1
            cases h1
            have es2 : ioS ρ (.slot i :: rs) = ioS ρ rs := by
              show (match ρ[i]? with
                | some s => if s.lst.isSome = true then i :: ioS ρ rs else ioS ρ rs
                | none => ioS ρ rs) = _
              rw [ex]
              rfl
            rw [es2]
            exact ⟨.dat h2 i1, by rw [show ioA (v :: vs) (.dat x :: as2) = ioA vs as2 by cases v <;> rfl]; exact i2, by rw [show ioA (v :: vs) (.dat x :: as2) = ioA vs as2 by cases v <;> rfl]; exact i3⟩
          · rename_i ds ex
            cases e1
            exact io _ ds ex rfl rfl
          · rename_i ds ex
            cases e1
            exact io _ ds ex rfl rfl
          · cases e1
        | new ds => cases e1
        | cst ds => cases e1
theorem io_nodup [TC : TabsC] (R : Rel S M σ H ρ) {l : List Nat} {as : List Addr} (hl : as.length = l.length) (h : ∀ (j : Nat) (i : Nat) (a : Addr), l[j]? = some i → as[j]? = some a → σ[i]? = some (some (.ref a)) ∧ ∃ s, ρ[i]? = some s ∧ s.lst ≠ none) (n : l.Nodup) : as.Nodup := by
  refine List.pairwise_iff_getElem.mpr fun j k hj hk hjk e => ?_
  have hk2 : k < l.length := by omega
  have hj2 : j < l.length := by omega
  obtain ⟨b1, s, b2, b3⟩ := h j l[j] as[j] (List.getElem?_eq_getElem hj2) (List.getElem?_eq_getElem hj)
  obtain ⟨c1, t, c2, c3⟩ := h k l[k] as[k] (List.getElem?_eq_getElem hk2) (List.getElem?_eq_getElem hk)
  rw [← e] at c1
  have z := R.inj _ _ s t _ b2 c2 b3 c3 b1 c1
  exact List.pairwise_iff_getElem.mp n j k hj2 hk2 hjk z
/-- the lists of several slots change, one after another -/
theorem Rel.stores [TC : TabsC] {G : Hp} (hG : ∀ b, b ∈ M → ∃ o, G b = some o ∧ hidable o = true) : ∀ {l : List Nat} {as : List Addr} {os : List (List PyData)} {ρ ρ' : List SV}, Rel S M σ G ρ → as.length = l.length →
    (∀ (j : Nat) (i : Nat) (a : Addr), l[j]? = some i → as[j]? = some a → σ[i]? = some (some (.ref a)) ∧ ∃ s, ρ[i]? = some s ∧ s.lst ≠ none) → (∀ b, Hid M H' b = Hid M G b) → OutsOk M H' as os → setOuts ρ l os = some ρ' →
    ∃ G', Rel S M σ G' ρ' ∧ (∀ b, b ∉ as → G' b = G b) ∧ (as.Nodup → ∀ b, b ∈ as → G' b = H' b)
  | [], [], os, ρ, ρ', R, _, _, _, k, e => by
    cases k
    cases e
    exact ⟨G, R, fun _ _ => rfl, fun _ b m => nomatch m⟩
  | i :: l, a :: as, _, ρ, ρ', R, hl, h, hh, .cons (ys := ys) (ds := ds) (os := os) h1 h2 h3, e => by
    obtain ⟨k1, s, k2, k3⟩ := h 0 i a rfl rfl
    obtain ⟨es, ke⟩ := Option.ne_none_iff_exists'.mp k3
    have hd : DAll (Hid M G) ys ds := by
      have : Hid M H' = Hid M G := funext hh
      rw [← this]
      exact h2
    obtain ⟨R1, v1⟩ := R.store k2 ke k1 hd
    have ma : a ∈ M := by
      obtain ⟨p, zs, q1, q2, q3⟩ := (R.slots i s k2).adr k3
      rw [k1] at q1
      cases q1
      exact q2
    have e2 : setL ρ i ds = ρ.set i (s.put ds) := by
      unfold setL
      rw [k2]
      dsimp only
      rw [ke]
      rfl
    have e : setOuts (setL ρ i ds) l os = some ρ' := e
    rw [e2] at e
    have hG1 : ∀ b, b ∈ M → ∃ o, upd G a (.lst ys) b = some o ∧ hidable o = true := fun b m => by
      by_cases c : b = a
      · subst c
        exact ⟨_, upd_same, rfl⟩
      · rw [upd_ne c]
        exact hG b m
    have hh1 : ∀ b, Hid M H' b = Hid M (upd G a (.lst ys)) b := fun b => by
      rw [hh b]
      by_cases c : b = a
      · subst c
        obtain ⟨zs, hz, ho⟩ := hG b ma
        rw [hid_in ma hz ho, hid_in ma upd_same rfl]
      · exact hid_congr (by rw [upd_ne c])
    have pt : ∀ (j : Nat) (k : Nat) (b : Addr), l[j]? = some k → as[j]? = some b → σ[k]? = some (some (.ref b)) ∧ ∃ t, (ρ.set i (s.put ds))[k]? = some t ∧ t.lst ≠ none := fun j k b g1 g2 => by
      obtain ⟨q1, t, q2, q3⟩ := h (j + 1) k b g1 g2
      refine ⟨q1, ?_⟩
      by_cases c : k = i
      · subst c
        refine ⟨_, get_set_self (List.getElem?_eq_some_iff.mp k2).1, ?_⟩
        cases s <;> exact fun z => nomatch z
      · exact ⟨t, by rw [List.getElem?_set_ne (Ne.symm c)]; exact q2, q3⟩
    obtain ⟨G', r1, r2, r3⟩ := Rel.stores hG1 R1 (Nat.succ.inj hl) pt hh1 h3 e
    refine ⟨G', r1, fun b n => ?_, fun nd b m => ?_⟩
    · rw [r2 b fun z => n (List.mem_cons_of_mem _ z), upd_ne (fun z => n (by rw [z]; exact List.mem_cons_self))]
    · have nd2 := List.nodup_cons.mp nd
      rcases List.mem_cons.mp m with z | z
      · subst z
        rw [r2 b nd2.1, upd_same, h1]
      · exact r3 nd2.2 b z
  | [], _ :: _, _, _, _, _, hl, _, _, _, _ => nomatch hl
  | _ :: _, [], _, _, _, _, hl, _, _, _, _ => nomatch hl
/-- behind a call: G the heap behind it, with the lists that may change as they were -/
theorem Rel.called [TC : TabsC] {M0 : List Addr} {ρ0 : List SV} {G : Hp} {l : List Nat} {as : List Addr} {os : List (List PyData)} (R : Rel S M σ G ρ) (t : Tr σ M0 H ρ0 M G ρ) (hl : as.length = l.length) (h : ∀ (j : Nat) (i : Nat) (a : Addr), l[j]? = some i → as[j]? = some a → σ[i]? = some (some (.ref a)) ∧ ∃ s, ρ[i]? = some s ∧ s.lst ≠ none)
    (n : as.Nodup) (fr : ∀ b, b ∉ as → G b = H' b) (k : OutsOk M H' as os) (e : setOuts ρ l os = some ρ') : Rel S M σ H' ρ' ∧ Tr σ M0 H ρ0 M H' ρ' := by
  have atS : ∀ a ∈ as, ∃ (i : Nat) (s : SV), σ[i]? = some (some (.ref a)) ∧ ρ[i]? = some s ∧ s.lst ≠ none := fun a m => by
    obtain ⟨j, hj⟩ := List.getElem?_of_mem m
    have hj2 : j < l.length := by
      have := (List.getElem?_eq_some_iff.mp hj).1
      omega
    obtain ⟨k1, s, k2, k3⟩ := h j _ a (List.getElem?_eq_getElem hj2) hj
    exact ⟨_, s, k1, k2, k3⟩
  have outs : ∀ a ∈ as, ∃ ys, H' a = some (.lst ys) := outs_at k
  have hh : ∀ b, Hid M H' b = Hid M G b := fun b => by
    by_cases c : b ∈ as
    · obtain ⟨i, s, k1, k2, k3⟩ := atS b c
      obtain ⟨p, ys, q1, m1, e3⟩ := (R.slots i s k2).adr k3
      rw [k1] at q1
      cases q1
      obtain ⟨zs, e2⟩ := outs b c
      rw [hid_in m1 e2 rfl, hid_in m1 e3 rfl]
    · exact hid_congr (fr b c).symm
  obtain ⟨G', r1, r2, r3⟩ := Rel.stores R.al R hl h hh k e
  have eG : G' = H' := funext fun b => by
    by_cases c : b ∈ as
    · exact r3 n b c
    · rw [r2 b c]
      exact fr b c
  rw [eG] at r1
  refine ⟨r1, fun b o hb => by rw [hh b]; exact t.vis b o hb, fun a ys m ea nt na => ?_, fun a na j s hs l2 => ?_, fun a na => ?_⟩
  · obtain ⟨m1, e1⟩ := t.kp a ys m ea nt na
    refine ⟨m1, ?_⟩
    rw [← fr a fun c => ?_]
    · exact e1
    · obtain ⟨i, s, k1, k2, k3⟩ := atS a c
      exact t.sl a na i s k2 k3 k1
  · obtain ⟨u, hu, lu⟩ := setOuts_back e j s hs l2
    exact t.sl a na j u hu lu
  · refine t.fr a ?_
    have e : noT G a = noT H' a := by
      unfold noT
      rw [fr a fun c => ?_]
      obtain ⟨zs, e2⟩ := outs a c
      exact noT_none' na e2 rfl
    rw [e]
    exact na
where
  outs_at {M : List Addr} {H' : Hp} : ∀ {as : List Addr} {os : List (List PyData)}, OutsOk M H' as os → ∀ a ∈ as, ∃ ys, H' a = some (.lst ys)
    | _, _, .cons h1 h2 t, a, m => by
      rcases List.mem_cons.mp m with z | z
      · subst z
        exact ⟨_, h1⟩
      · exact outs_at t a z
  setOuts_back : ∀ {l : List Nat} {os : List (List PyData)} {ρ ρ' : List SV}, setOuts ρ l os = some ρ' → ∀ (j : Nat) (s : SV), ρ'[j]? = some s → s.lst ≠ none → ∃ t, ρ[j]? = some t ∧ t.lst ≠ none
    | [], [], ρ, ρ', e, j, s, h, l => by
      cases e
      exact ⟨s, h, l⟩
    | i :: is, ds :: os, ρ, ρ', e, j, s, h, l => by
      obtain ⟨t, h1, l1⟩ := setOuts_back (l := is) (os := os) (ρ := setL ρ i ds) e j s h l
      unfold setL at h1
      split at h1
      · rename_i u hu
        split at h1
        · rename_i lu
          rcases set_get h1 with ⟨rfl, rfl⟩ | ⟨_, h2⟩
          · exact ⟨u, hu, fun z => by
              rw [z] at lu
              cases lu⟩
          · exact ⟨t, h2, l1⟩
        · exact ⟨t, h1, l1⟩
      · exact ⟨t, h1, l1⟩
    | [], _ :: _, _, _, e, _, _, _, _ => nomatch e
    | _ :: _, [], _, _, e, _, _, _, _ => nomatch e
section
variable {X : Cx} {CX : CXT} {k : Nat} {D : FD} {x : Str} {e : Expr} {es : List Expr} {A : FM (List RV)} {p pos : Pos}
theorem own_read [TC : TabsC] {t : TE} {ta : TA} {r : TE} (h : ∀ (S : Sit) (M : List Addr) (σ : L2.St) (H : Hp) (ρ : List SV) (rs : List RV) (ρ' : List SV), Rel S M σ H ρ → A ρ = some (rs, ρ') → ∀ Q : List V → Hp → Prop, (∀ M' vs H', Rel S M' σ H' ρ' → Tr σ M H ρ M' H' ρ' → AllRV X.K H M' σ H' ρ' vs rs → Q vs H') → ta σ H Q) {E : XK} : RdO X.K (fOwn D A) (tOwn (spF D) E ta) := by
  intro S M σ H ρ r ρ' R e Q q
  obtain ⟨rs, ρ1, ex, e⟩ := fbind_some e
  split at e
  rotate_left
  · cases e
  rename_i as ea
  split at e
  rotate_left
  · cases e
  rename_i d os ed
  split at e
  rotate_left
  · cases e
  rename_i nd
  cases eo : setOuts ρ1 (ioS ρ1 rs) os with
  | none =>
    rw [eo] at e
    cases e
  | some ρ2 =>
    rw [eo] at e
    cases e
    refine h S M σ H ρ _ _ R ex _ fun M1 vs H1 R1 t1 k1 => ?_
    obtain ⟨a1, a2, a3⟩ := args_of R1 k1 ea
    have n2 := io_nodup R1 a2 a3 nd
    refine ⟨M1, as, d, os, R1.al, a1, n2, ed, fun v M' H' fr ok ret => ?_⟩
    have inH : ∀ a ∈ ioA vs as, ∃ ys, H1 a = some (.lst ys) := fun a m => by
      obtain ⟨j, hj⟩ := List.getElem?_of_mem m
      have hj2 : j < (ioS ρ1 rs).length := by
        have := (List.getElem?_eq_some_iff.mp hj).1
        omega
      obtain ⟨k1, s, k2, k3⟩ := a3 j _ a (List.getElem?_eq_getElem hj2) hj
      obtain ⟨p, ys, q1, q2, q3⟩ := (R1.slots _ s k2).adr k3
      rw [k1] at q1
      cases q1
      exact ⟨ys, q3⟩
    let G : Hp := fun b => if b ∈ ioA vs as then H1 b else H' b
    have sG : L2.Same H1 G := fun b o hb => by
      show (if b ∈ ioA vs as then H1 b else H' b) = some o
      by_cases c : b ∈ ioA vs as
      · rw [if_pos c]
        exact hb
      · rw [if_neg c]
        exact fr b o c hb
    have frG : ∀ b, b ∉ ioA vs as → G b = H' b := fun b c => if_neg c
    cases d with
    | dat y =>
      obtain ⟨rfl, ret⟩ := ret
      obtain ⟨R2, t2⟩ := (R1.grow sG).called (t1.trans (Tr2.grow sG)) a2 a3 n2 frG ok eo
      exact q _ v H' R2 t2 ret
    | new ds =>
      obtain ⟨b, ys, rfl, rfl, b1, b2, b3⟩ := ret
      have nb : b ∉ ioA vs as := fun c => by
        obtain ⟨zs, e2⟩ := inH b c
        rw [b1] at e2
        cases e2
      have eb : G b = some (.lst ys) := by rw [frG b nb, b2]
      obtain ⟨R2, t2⟩ := (R1.newl sG b1 eb).called (t1.trans (Tr2.newl sG b1)) a2 a3 n2 frG ok eo
      exact q _ _ H' R2 t2 ⟨b, ys, rfl, List.mem_cons_self, b2, b3, t1.fr b (noT_none b1), fun i s es l => Rel.called.setOuts_back eo i s es l |>.elim fun u hu => R1.notSlot b1 i u hu.1 hu.2⟩
end
end
end Cb

end

section
set_option maxRecDepth 100000
set_option maxHeartbeats 4000000
set_option autoImplicit false
/-! Pf, part H: calls of defs of the text; a def is its function. -/
namespace Cb
open PySem PySem.Spec PyProof.Rows L2
section
variable {X : Cx} {CX : CXT} {k : Nat} {D : FD} {x : Str} {e : Expr} {es : List Expr} {A : FM (List RV)} {p pos : Pos} {E : XK}
theorem o_own [TC : TabsC] (F : Gives X.prog X.w X.K X.mg X.base CX k x (spF D)) (hr : Room k X.A) (hg : Gl X x) (hx : Passes CX X E) (ha : AOk X (e :: es) A) (hdb : (x == ("__debug__" : Str)) = false := by decide)
    (he : starEach (e :: es) X.env = (false, eval e X.env) :: starEach es X.env := by rfl) (hpl : (backTo pos (starEach es X.env)).any (·.1) = false := by rfl) : OOk X (.Call (.Name x p) (e :: es) [] pos) (fOwn D A) := by
  obtain ⟨t, pt, qt⟩ := ha
  exact ⟨_, pe_own F hr hg hx pt hdb he hpl, own_read (t := fun _ _ _ => True) (r := fun _ _ _ => True) qt⟩
theorem o_own0 [TC : TabsC] (F : Gives X.prog X.w X.K X.mg X.base CX k x (spF D)) (hr : Room k X.A) (hg : Gl X x) (hx : Passes CX X E) (hdb : (x == ("__debug__" : Str)) = false := by decide) : OOk X (.Call (.Name x p) [] [] pos) (fOwn D fNil) := by
  obtain ⟨t, pt, qt⟩ := (a_nil (X := X))
  exact ⟨_, pe_own0 F hr hg hx hdb, own_read (A := fNil) (t := fun _ _ _ => True) (r := fun _ _ _ => True) fun S M σ H ρ rs ρ' R e Q q => by
    cases e
    exact q M [] H R Tr2.refl .nil⟩
theorem o_ownG [TC : TabsC] (F : GivesG X.prog X.w X.K X.mg X.base CX k x (spF D)) (hgd : X.A.guards = some []) (hr : Room k X.A) (hg : Gl X x) (hx : Passes CX X E) (ha : AOk X (e :: es) A) (hdb : (x == ("__debug__" : Str)) = false := by decide)
    (he : starEach (e :: es) X.env = (false, eval e X.env) :: starEach es X.env := by rfl) (hpl : (backTo pos (starEach es X.env)).any (·.1) = false := by rfl) : OOk X (.Call (.Name x p) (e :: es) [] pos) (fOwn D A) := by
  obtain ⟨t, pt, qt⟩ := ha
  exact ⟨_, pe_ownG F hgd hr hg hx pt hdb he hpl, own_read (t := fun _ _ _ => True) (r := fun _ _ _ => True) qt⟩
theorem o_ownG0 [TC : TabsC] (F : GivesG X.prog X.w X.K X.mg X.base CX k x (spF D)) (hgd : X.A.guards = some []) (hr : Room k X.A) (hg : Gl X x) (hx : Passes CX X E) (hdb : (x == ("__debug__" : Str)) = false := by decide) : OOk X (.Call (.Name x p) [] [] pos) (fOwn D fNil) := by
  exact ⟨_, pe_ownG0 F hgd hr hg hx hdb, own_read (A := fNil) (t := fun _ _ _ => True) (r := fun _ _ _ => True) fun S M σ H ρ rs ρ' R e Q q => by
    cases e
    exact q M [] H R Tr2.refl .nil⟩
end
/-! ### a def -/
def toSV : AV → SV
  | .dat x => .d x
  | .io ds => .par ds
def outsAt (ρ : List SV) : List AV → Nat → Option (List (List PyData))
  | [], _ => some []
  | .dat _ :: as, i => outsAt ρ as (i + 1)
  | .io _ :: as, i => match ρ[i]? with
    | some (.par ds) => (outsAt ρ as (i + 1)).map fun os => ds :: os
    | _ => none
/-- the slots at a def's entry: np parameters, n names in all -/
def entry (n : Nat) (as : List AV) : List SV := as.map toSV ++ List.replicate (n - as.length) .un
def runF (np n : Nat) (B : FB) : FD := fun as => if as.length = np then (match B (entry n as) with
  | some (.rt r ρ) => (outsAt ρ as 0).map fun os => (r, os)
  | some (.nx ρ) => (outsAt ρ as 0).map fun os => (.dat .none, os)
  | _ => none) else none
def ioC : List V → List AV → Nat → List (Nat × Addr)
  | .ref a :: vs, .io _ :: as, i => (i, a) :: ioC vs as (i + 1)
  | _ :: vs, _ :: as, i => ioC vs as (i + 1)
  | _, _, _ => []
section
variable {M : List Addr} {H : Hp}
theorem ioC_of : ∀ {vs : List V} {as : List AV} {i : Nat}, ArgsOk M H vs as → ∀ p ∈ ioC vs as i, i ≤ p.1 ∧ p.2 ∈ M ∧ p.2 ∈ ioA vs as ∧ vs[p.1 - i]? = some (.ref p.2) ∧ ∃ ds, as[p.1 - i]? = some (.io ds)
  | _, _, i, .nil, p, m => nomatch m
  | _, _, i, .dat (v := v) (vs := vs) (x := x) (as := as) _ t, p, m => by
    have e1 : ioC (v :: vs) (.dat x :: as) i = ioC vs as (i + 1) := by cases v <;> rfl
    have e2 : ioA (v :: vs) (.dat x :: as) = ioA vs as := by cases v <;> rfl
    rw [e1] at m
    obtain ⟨h1, h2, h3, h4, ds, h5⟩ := ioC_of t p m
    have z : p.1 - i = (p.1 - (i + 1)) + 1 := by omega
    rw [e2, z]
    exact ⟨by omega, h2, h3, h4, ds, h5⟩
  | _, _, i, .io (a := a) (vs := vs) (ds := ds) (as := as) ma ha hd t, p, m => by
    rcases List.mem_cons.mp m with z | z
    · subst z
      exact ⟨Nat.le_refl _, ma, List.mem_cons_self, by simp, ds, by simp⟩
    · obtain ⟨h1, h2, h3, h4, es, h5⟩ := ioC_of t p z
      have z : p.1 - i = (p.1 - (i + 1)) + 1 := by omega
      rw [z]
      exact ⟨by omega, h2, List.mem_cons_of_mem _ h3, h4, es, h5⟩
theorem ioC_has : ∀ {vs : List V} {as : List AV} {i : Nat}, ArgsOk M H vs as → ∀ (j : Nat) (ds : List PyData), as[j]? = some (.io ds) → ∃ a ys, vs[j]? = some (.ref a) ∧ (i + j, a) ∈ ioC vs as i ∧ a ∈ M ∧ H a = some (.lst ys) ∧ DAll (Hid M H) ys ds
  | _, _, i, .nil, j, ds, e => by simp at e
  | _, _, i, .dat (v := v) (vs := vs) (x := x) (as := as) _ t, j, ds, e => by
    have e1 : ioC (v :: vs) (.dat x :: as) i = ioC vs as (i + 1) := by cases v <;> rfl
    cases j with
    | zero => cases e
    | succ j =>
      obtain ⟨a, ys, h1, h2, h3⟩ := ioC_has (i := i + 1) t j ds e
      rw [e1]
      exact ⟨a, ys, h1, by rw [show i + (j + 1) = i + 1 + j by omega]; exact h2, h3⟩
  | _, _, i, .io (a := a) (ys := ys) (vs := vs) (ds := es) (as := as) ma ha hd t, j, ds, e => by
    cases j with
    | zero =>
      cases e
      exact ⟨a, ys, rfl, List.mem_cons_self, ma, ha, hd⟩
    | succ j =>
      obtain ⟨b, zs, h1, h2, h3⟩ := ioC_has (i := i + 1) t j ds e
      exact ⟨b, zs, h1, List.mem_cons_of_mem _ (by rw [show i + (j + 1) = i + 1 + j by omega]; exact h2), h3⟩
theorem args_dat : ∀ {vs : List V} {as : List AV}, ArgsOk M H vs as → ∀ (j : Nat) (x : PyData), as[j]? = some (.dat x) → ∃ v, vs[j]? = some v ∧ DA (Hid M H) v x
  | _, _, .nil, j, x, e => by simp at e
  | _, _, .dat h t, j, x, e => by
    cases j with
    | zero =>
      cases e
      exact ⟨_, rfl, h⟩
    | succ j => exact args_dat t j x e
  | _, _, .io _ _ _ t, j, x, e => by
    cases j with
    | zero => cases e
    | succ j => exact args_dat t j x e
theorem ioA_inj : ∀ {vs : List V} {as : List AV}, ArgsOk M H vs as → (ioA vs as).Nodup → ∀ (j k : Nat) (a : Addr) (ds es : List PyData), as[j]? = some (.io ds) → as[k]? = some (.io es) → vs[j]? = some (.ref a) → vs[k]? = some (.ref a) → j = k
  | _, _, .nil, _, j, k, a, ds, es, e, _, _, _ => by simp at e
  | _, _, .dat (v := v) (vs := vs) (x := x) (as := as) _ t, n, j, k, a, ds, es, e1, e2, g1, g2 => by
    have e3 : ioA (v :: vs) (.dat x :: as) = ioA vs as := by cases v <;> rfl
    rw [e3] at n
    cases j with
    | zero => cases e1
    | succ j =>
      cases k with
      | zero => cases e2
      | succ k => exact congrArg (· + 1) (ioA_inj t n j k a ds es e1 e2 g1 g2)
  | _, _, .io (a := b) (vs := vs) (as := as) mb hb hd t, n, j, k, a, ds, es, e1, e2, g1, g2 => by
    have n2 := List.nodup_cons.mp n
    have mem : ∀ (j : Nat) (ds : List PyData), as[j]? = some (.io ds) → vs[j]? = some (.ref a) → a ∈ ioA vs as := fun j ds h1 h2 => by
      obtain ⟨c, ys, q1, q2, _⟩ := ioC_has (i := 0) t j ds h1
      rw [h2] at q1
      cases q1
      exact (ioC_of t _ q2).2.2.1
    cases j with
    | zero =>
      cases k with
      | zero => rfl
      | succ k =>
        cases g1
        exact absurd (mem k es e2 g2) n2.1
    | succ j =>
      cases k with
      | zero =>
        cases g2
        exact absurd (mem j ds e1 g1) n2.1
      | succ k => exact congrArg (· + 1) (ioA_inj t n2.2 j k a ds es e1 e2 g1 g2)
theorem start_get {N : List Str} {vs : List V} {j : Nat} {v : V} (h : vs[j]? = some v) : (L2.start N vs)[j]? = some (some v) := by
  unfold L2.start
  have hj : j < vs.length := (List.getElem?_eq_some_iff.mp h).1
  rw [List.getElem?_append_left (by rw [List.length_map]; exact hj), List.getElem?_map, h]
  rfl
theorem entry_get {n j : Nat} {as : List AV} {s : SV} (h : (entry n as)[j]? = some s) : s = .un ∨ ∃ a, as[j]? = some a ∧ s = toSV a := by
  unfold entry at h
  by_cases c : j < as.length
  · rw [List.getElem?_append_left (by rw [List.length_map]; exact c), List.getElem?_map, List.getElem?_eq_getElem c] at h
    exact .inr ⟨_, List.getElem?_eq_getElem c, (Option.some.inj h).symm⟩
  · rw [List.getElem?_append_right (by rw [List.length_map]; omega)] at h
    exact .inl (List.eq_of_mem_replicate (List.mem_of_getElem? h))
theorem entry_has {n j : Nat} {as : List AV} {a : AV} (h : as[j]? = some a) : (entry n as)[j]? = some (toSV a) := by
  unfold entry
  have hj : j < as.length := (List.getElem?_eq_some_iff.mp h).1
  rw [List.getElem?_append_left (by rw [List.length_map]; exact hj), List.getElem?_map, h]
  rfl
/-- the entry -/
theorem entry_rel [TC : TabsC] {N : List Str} {vs : List V} {as : List AV} (hl : as.length ≤ N.length) (hM : ∀ a ∈ M, ∃ o, H a = some o ∧ hidable o = true) (ha : ArgsOk M H vs as) (nd : (ioA vs as).Nodup) (ht : TC.tp H) : Rel ⟨ioC vs as 0, M, noT H⟩ M (L2.start N vs) H (entry N.length as) where
  ok := ⟨fun a m => (hM a m).elim fun o ⟨h, ho⟩ => ⟨o, noT_of h (not_tbl ho), ho⟩, fun b o e => (noT_at e).2, fun p m => (ioC_of ha p m).2.1, fun p mp q mq e => by
    obtain ⟨_, _, _, h1, _⟩ := ioC_of ha p mp
    obtain ⟨_, _, _, h2, _⟩ := ioC_of ha q mq
    rw [e, h2] at h1
    exact (V.ref.inj (Option.some.inj h1)).symm⟩
  len := by
    unfold L2.start entry
    rw [List.length_append, List.length_append, List.length_map, List.length_map, List.length_replicate, List.length_replicate, ha.length]
  sub := fun a m => m
  al := hM
  out := fun b o _ e => (noT_at e).1
  tabs := ht
  slots := fun i s e => by
    rcases entry_get e with rfl | ⟨a, e1, rfl⟩
    · trivial
    · cases a with
      | dat x =>
        obtain ⟨v, h1, h2⟩ := args_dat ha i x e1
        exact ⟨v, start_get h1, h2⟩
      | io ds =>
        obtain ⟨b, ys, h1, h2, h3, h4, h5⟩ := ioC_has (i := 0) ha i ds e1
        exact ⟨b, ys, start_get h1, h3, h4, h5, by rw [Nat.zero_add] at h2; exact h2⟩
  inj := fun i j s t a e1 e2 l1 l2 g1 g2 => by
    rcases entry_get e1 with rfl | ⟨a1, h1, rfl⟩
    · exact absurd rfl l1
    rcases entry_get e2 with rfl | ⟨a2, h2, rfl⟩
    · exact absurd rfl l2
    cases a1 with
    | dat x => exact absurd rfl l1
    | io ds =>
      cases a2 with
      | dat x => exact absurd rfl l2
      | io es =>
        obtain ⟨b, _, k1, _⟩ := ioC_has (i := 0) ha i ds h1
        obtain ⟨c, _, k2, _⟩ := ioC_has (i := 0) ha j es h2
        have q1 := start_get (N := N) k1
        have q2 := start_get (N := N) k2
        rw [g1] at q1
        rw [g2] at q2
        cases q1
        cases q2
        exact ioA_inj ha nd i j a ds es h1 h2 k1 k2
  pars := fun p m => by
    obtain ⟨_, _, _, _, ds, h⟩ := ioC_of ha p m
    rw [Nat.sub_zero] at h
    exact ⟨ds, entry_has h⟩
/-- the lists at the end -/
theorem outs_ok [TC : TabsC] {S : Sit} {M1 M' : List Addr} {σ' : L2.St} {H' : Hp} {ρ' : List SV} {CS : List (Nat × Addr)} (R : Rel S M1 σ' H' ρ') (hC : ∀ p ∈ CS, p ∈ S.C) (sub : ∀ x ∈ M', x ∈ M1) : ∀ {vs : List V} {as : List AV} {i : Nat} {os : List (List PyData)}, ArgsOk M H vs as → (∀ p ∈ ioC vs as i, p ∈ CS) → outsAt ρ' as i = some os → OutsOk M' H' (ioA vs as) os
  | _, _, i, os, .nil, _, e => by
    cases e
    exact .nil
  | _, _, i, os, .dat (v := v) (vs := vs) (x := x) (as := as) _ t, hc, e => by
    have e1 : ioC (v :: vs) (.dat x :: as) i = ioC vs as (i + 1) := by cases v <;> rfl
    have e2 : ioA (v :: vs) (.dat x :: as) = ioA vs as := by cases v <;> rfl
    rw [e2]
    rw [e1] at hc
    exact outs_ok R hC sub t hc e
  | _, _, i, os, .io (a := a) (vs := vs) (ds := ds) (as := as) ma ha hd t, hc, e => by
    have e : (match ρ'[i]? with
      | some (.par ds) => (outsAt ρ' as (i + 1)).map fun os => ds :: os
      | _ => none) = some os := e
    split at e
    · rename_i es hes
      cases e2 : outsAt ρ' as (i + 1) with
      | none =>
        rw [e2] at e
        cases e
      | some os2 =>
        rw [e2] at e
        cases e
        obtain ⟨b, ys, h1, h2, h3, h4, h5⟩ := R.slots i _ hes
        have hb := R.ok.cu _ h5 _ (hC _ (hc _ List.mem_cons_self)) rfl
        have hb : b = a := hb
        subst hb
        exact .cons h3 (h4.same (hid_less sub)) (outs_ok R hC sub t (fun p m => hc p (List.mem_cons_of_mem _ m)) e2)
    · cases e
theorem not_ioC : ∀ {vs : List V} {as : List AV} {i : Nat} {b : Addr}, ArgsOk M H vs as → b ∉ ioA vs as → ∀ j, (j, b) ∉ ioC vs as i := fun t n j m => n (ioC_of t _ m).2.2.1
/-- the tables of H stay -/
abbrev tabsAt (H : Hp) : TabsC where
  tp := fun H' => ∀ b ps, H b = some (.tbl ps) → H' b = some (.tbl ps)
  up := fun h k b ps e => k b _ (h b ps e) rfl
theorem is_tbl {o : HO} (h : isTbl o = true) : ∃ ps, o = .tbl ps := by
  cases o <;> first | exact ⟨_, rfl⟩ | cases h
theorem body_ok {X : Cx} {N : List Str} {sts : List Stmt} {B : FB} {np : Nat} (hb : ∀ [TC : TabsC], BOk X sts B) (hnp : np ≤ N.length) {vs : List V} {Q : VK} {E : XK} (h : spF (runF np N.length B) vs H Q E) : ∃ t, PSs X sts t ∧ t { nx := fun _ H' => Q .non H', rt := Q } (L2.start N vs) H := by
  obtain ⟨t, p, q⟩ := hb (TC := tabsAt H)
  obtain ⟨M, as, r, os, hM, ha, nd, ed, hq⟩ := h
  refine ⟨t, p, ?_⟩
  unfold runF at ed
  split at ed
  rotate_left
  · cases ed
  rename_i hlen
  letI : TabsC := tabsAt H
  have R := entry_rel (N := N) (by omega) hM ha nd (fun b ps e => e)
  have kp : ∀ {M' : List Addr} {σ' : L2.St} {H' : Hp} {ρ' : List SV}, Rel ⟨ioC vs as 0, M, noT H⟩ M' σ' H' ρ' → ∀ b o, b ∉ ioA vs as → H b = some o → H' b = some o := fun {M' σ' H' ρ'} R' b o n e => by
    cases c : isTbl o with
    | false => exact R'.out b o (not_ioC ha n) (noT_of e c)
    | true =>
      obtain ⟨ps, rfl⟩ := is_tbl c
      exact R'.tabs b ps e
  split at ed
  · rename_i r1 ρ1 e1
    cases e2 : outsAt ρ1 as 0 with
    | none =>
      rw [e2] at ed
      cases ed
    | some os1 =>
      rw [e2] at ed
      cases ed
      refine q _ _ _ _ _ _ R e1 _ fun M' σ' v H' R' vis ret => ?_
      cases r with
      | dat x => exact hq v M H' (kp R') (outs_ok R' (fun _ m => m) R'.sub ha (fun _ m => m) e2) ⟨rfl, DA.same ret (hid_less R'.sub)⟩
      | new ds =>
        obtain ⟨a, ys, rfl, h1, h2, h3, h4⟩ := ret
        have h2 : H a = none := by
          cases e : H a with
          | none => rfl
          | some o =>
            cases c : isTbl o with
            | false => exact (noT_none' h2 e c).elim
            | true =>
              obtain ⟨ps, rfl⟩ := is_tbl c
              rw [R'.tabs a ps e] at h3
              cases h3
        have sub : ∀ x ∈ a :: M, x ∈ M' := fun x m => by
          rcases List.mem_cons.mp m with z | z
          · rw [z]
            exact h1
          · exact R'.sub x z
        exact hq _ (a :: M) H' (kp R') (outs_ok R' (fun _ m => m) sub ha (fun _ m => m) e2) ⟨a, ys, rfl, rfl, h2, h3, h4.same (hid_less sub)⟩
  · rename_i ρ1 e1
    cases e2 : outsAt ρ1 as 0 with
    | none =>
      rw [e2] at ed
      cases ed
    | some os1 =>
      rw [e2] at ed
      cases ed
      refine q _ _ _ _ _ _ R e1 _ fun M' σ' H' R' vis => ?_
      exact hq .non M H' (kp R') (outs_ok R' (fun _ m => m) R'.sub ha (fun _ m => m) e2) ⟨rfl, .non⟩
  · cases ed
end
section
variable {P : Program} {w : World} {K : PySem.W.Frag} {mg : Str → Option Value} {base : Heap} {k np : Nat} {x : Str} {st : Stmt} {N ps : List Str} {B : FB}
theorem givesF (T : Stands K mg x st) (S : FnScope N ps (defScope st)) (hn : ps.length = np) (hn2 : np ≤ N.length)
    (hb : ∀ (kV doc pm : Value) (an : Option Addr) (cdv ct : Value) (us : List Value), us.length = ps.length → bindArgs (PySem.W.fnOf x x (defArgs st) (defBody st) (defScope st) .none kV doc pm an cdv ct) ⟨us, []⟩ = pure (ps.zip us))
    (hbody : ∀ (f : Addr) (cdv : Value) (A : Around) (outer : List Env) (s : Shared) (H : Hp) (E : XK), Room k (A.deeper (envOfC x (defScope st) s.heap.objs.size f cdv)) →
      ∀ [TC : TabsC], BOk (cxOf CX0 P w K mg base N x (defScope st) f cdv A outer s H E).nox (defBody st) B) : Gives P w K mg base CX0 (k + 1) x (spF (runF np N.length B)) := by
  refine gives_fun T S hb (fun vs H Q E h => ?_) fun f cdv A outer s H vs Q E hr h => body_ok (hbody f cdv A outer s H E hr) hn2 h
  obtain ⟨M, as, r, os, _, ha, _, ed, _⟩ := h
  unfold runF at ed
  split at ed
  · rename_i c
    rw [ha.length, c, hn]
  · cases ed
theorem givesFG (T : Stands K mg x st) (S : FnScope N ps (defScope st)) (hn : ps.length = np) (hn2 : np ≤ N.length)
    (hb : ∀ (kV doc pm : Value) (an : Option Addr) (cdv ct : Value) (us : List Value), us.length = ps.length → bindArgs (PySem.W.fnOf x x (defArgs st) (defBody st) (defScope st) .none kV doc pm an cdv ct) ⟨us, []⟩ = pure (ps.zip us))
    (hbody : ∀ (f : Addr) (cdv : Value) (A : Around) (outer : List Env) (s : Shared) (H : Hp) (E : XK), (A.deeper (envOfC x (defScope st) s.heap.objs.size f cdv)).guards = some [] → Room k (A.deeper (envOfC x (defScope st) s.heap.objs.size f cdv)) →
      ∀ [TC : TabsC], BOk (cxOf CX0 P w K mg base N x (defScope st) f cdv A outer s H E).nox (defBody st) B) : GivesG P w K mg base CX0 (k + 1) x (spF (runF np N.length B)) := by
  refine givesG_fun T S hb (fun vs H Q E h => ?_) fun f cdv A outer s H vs Q E hgd hr h => body_ok (hbody f cdv A outer s H E hgd hr) hn2 h
  obtain ⟨M, as, r, os, _, ha, _, ed, _⟩ := h
  unfold runF at ed
  split at ed
  · rename_i c
    rw [ha.length, c, hn]
  · cases ed
end
end Cb

end

section
set_option maxRecDepth 100000
set_option maxHeartbeats 4000000
set_option autoImplicit false
/-! Pf, part I: the operations on data. -/
namespace Cb
open PySem PySem.Spec PyProof.Rows L2
theorem OpR.or {X : Cx} {f : Value → Value → Sem Value} {r r' : R2} (h : OpR X f r) (h' : OpR X f r') : OpR X f (fun x y H Q => r x y H Q ∨ r' x y H Q) := by
  intro pins s σ H x y v u Q I rx ry q
  rcases q with q | q
  · exact h pins s σ H x y v u Q I rx ry q
  · exact h' pins s σ H x y v u Q I rx ry q
theorem CallR.or {X : Cx} {f : Value} {r r' : List V → Hp → VK → Prop} (h : CallR X f r) (h' : CallR X f r') : CallR X f (fun x H Q => r x H Q ∨ r' x H Q) := by
  intro pins s σ H x u Q I rx q
  rcases q with q | q
  · exact h pins s σ H x u Q I rx q
  · exact h' pins s σ H x u Q I rx q
section
variable {s : Bool} {K : PySem.W.Frag} {M : List Addr} {H : Hp} {v : V}
theorem vw_int {i : Int} (h : VW s K M H v (.int i)) : v = .int i := by
  cases (show DA (Hid M H) v (.int i) from h)
  rfl
theorem vw_str {i : Str} (h : VW s K M H v (.str i)) : v = .str i := by
  cases (show DA (Hid M H) v (.str i) from h)
  rfl
theorem vw_bool {i : Bool} (h : VW s K M H v (.bool i)) : v = .bl i := by
  cases (show DA (Hid M H) v (.bool i) from h)
  rfl
theorem vw_none (h : VW s K M H v .none) : v = .non := by
  cases (show DA (Hid M H) v .none from h)
  rfl
theorem rok_int {i : Int} : ResOk M H (.int i) H (.int i) := ⟨L2.Same.refl _, .int i⟩
theorem rok_bool {i : Bool} : ResOk M H (.bl i) H (.bool i) := ⟨L2.Same.refl _, .bl i⟩
theorem rok_str {i : Str} : ResOk M H (.str i) H (.str i) := ⟨L2.Same.refl _, .str i⟩
theorem rok_lst {p : Addr} {ys : List V} {ds : List PyData} (n : H p = none) (h : DAll (Hid M H) ys ds) : ResOk M H (.ref p) (upd H p (.lst ys)) (.list ds) := ⟨p, ys, rfl, n, same_upd n, upd_same, h.same (hid_cons (same_upd n) n)⟩
theorem rok_tup {p : Addr} {u : HO} {ys : List V} {ds : List PyData} (n : H p = none) (t : TupO u ys) (h : DAll (Hid M H) ys ds) : ResOk M H (.ref p) (upd H p u) (.tuple ds) := ⟨same_upd n, .tup (hid_tup upd_same t) t (h.same (hid_same (same_upd n)))⟩
end
section
variable {X : Cx}
/-! ### + -/
def opAdd : PyData → PyData → Option PyData
  | .int i, .int j => some (.int (i + j))
  | .str x, .str y => if x.length + y.length ≤ 4000000 then some (.str (x ++ y)) else none
  | .tuple xs, .tuple ys => if xs.length + ys.length ≤ 4000000 then some (.tuple (xs ++ ys)) else none
  | .list xs, .list ys => if xs.length + ys.length ≤ 4000000 then some (.list (xs ++ ys)) else none
  | _, _ => none
theorem line4 {n : Nat} (h : n ≤ 4000000) : n ≤ sizeLine := Nat.le_trans h (by decide)
theorem opAdd_ok : Op2Ok true X (binaryOp .Add) opAdd := by
  refine ⟨_, OpR.or op_add (OpR.or op_add_str (OpR.or op_cat (OpR.or op_catTF op_catA))), fun M H x y dx dy z h1 h2 e Q q => ?_⟩
  unfold opAdd at e
  split at e
  · cases e
    cases vw_int h1
    cases vw_int h2
    exact .inl ⟨_, _, rfl, rfl, q _ H rok_int⟩
  · split at e
    · rename_i c
      cases e
      cases vw_str h1
      cases vw_str h2
      exact .inr (.inl ⟨_, _, rfl, rfl, line4 c, q _ H rok_str⟩)
    · cases e
  · rename_i xs ys
    split at e
    · rename_i c
      cases e
      obtain ⟨⟨a, us, rfl, a1, a2⟩, a3⟩ := h1
      obtain ⟨⟨b, ws, rfl, b1, b2⟩, b3⟩ := h2
      have la := a2.length
      have lb := b2.length
      cases us with
      | nil =>
        have : xs = [] := by
          cases a2
          rfl
        subst this
        exact .inr (.inr (.inr (.inr ⟨a, b, [], ws, rfl, rfl, a1, b1, by rw [List.length_nil, lb]; exact line4 (by simpa using c), fun _ => q _ H ⟨L2.Same.refl _, b3 rfl⟩, fun n => absurd rfl n, fun n => absurd rfl n⟩)))
      | cons u us =>
        refine .inr (.inr (.inr (.inl ⟨a, b, u :: us, ws, rfl, rfl, a1, b1, (fun n => nomatch n), by rw [la, lb]; exact line4 c, fun n => ?_, fun n p o ho hp => q _ _ (rok_tup hp ho (a2.app b2))⟩)))
        subst n
        have : ys = [] := by
          cases b2
          rfl
        subst this
        rw [List.append_nil] at q
        exact q _ H ⟨L2.Same.refl _, a3 rfl⟩
    · cases e
  · rename_i xs ys
    split at e
    · rename_i c
      cases e
      obtain ⟨a, us, rfl, a1, a2⟩ := h1
      obtain ⟨b, ws, rfl, b1, b2⟩ := h2
      exact .inr (.inr (.inl ⟨a, b, us, ws, rfl, rfl, a1, b1, by rw [a2.length, b2.length]; exact line4 c, fun p hp => q _ _ (rok_lst hp (a2.app b2))⟩))
    · cases e
  · cases e
/-! ### numbers -/
def opSub : PyData → PyData → Option PyData
  | .int i, .int j => some (.int (i - j))
  | _, _ => none
theorem opSub_ok : Op2Ok true X (binaryOp .Sub) opSub := by
  refine ⟨_, op_sub, fun M H x y dx dy z h1 h2 e Q q => ?_⟩
  unfold opSub at e
  split at e
  · cases e
    cases vw_int h1
    cases vw_int h2
    exact ⟨_, _, rfl, rfl, q _ H rok_int⟩
  · cases e
instance (i j : Int) : Decidable (CMul i j) := inferInstanceAs (Decidable (_ ∨ _))
instance (i j : Int) : Decidable (CDivW i j) := inferInstanceAs (Decidable (_ ∧ _))
def opMul : PyData → PyData → Option PyData
  | .int i, .int j => if CMul i j then some (.int (i * j)) else none
  | .list xs, .int k => if 0 ≤ k ∧ k ≤ 4000000 ∧ xs.length * k.toNat ≤ 4000000 then some (.list (List.replicate k.toNat xs).flatten) else none
  | _, _ => none
theorem DAll.rep {H : Hp} {ys : List V} {ds : List PyData} (h : DAll H ys ds) : ∀ n : Nat, DAll H (List.replicate n ys).flatten (List.replicate n ds).flatten
  | 0 => .nil
  | n + 1 => by
    rw [List.replicate_succ, List.replicate_succ, List.flatten_cons, List.flatten_cons]
    exact h.app (DAll.rep h n)
theorem opMul_ok : Op2Ok true X (binaryOp .Mult) opMul := by
  refine ⟨_, OpR.or op_mul op_rep, fun M H x y dx dy z h1 h2 e Q q => ?_⟩
  unfold opMul at e
  split at e
  · split at e
    · rename_i c
      cases e
      cases vw_int h1
      cases vw_int h2
      exact .inl ⟨_, _, rfl, rfl, c, q _ H rok_int⟩
    · cases e
  · split at e
    · rename_i c
      cases e
      cases vw_int h2
      obtain ⟨a, us, rfl, a1, a2⟩ := h1
      exact .inr ⟨a, _, us, rfl, rfl, a1, by omega, by omega, by rw [a2.length]; exact line4 c.2.2, fun p hp => q _ _ (rok_lst hp (a2.rep _))⟩
    · cases e
  · cases e
def opFdiv : PyData → PyData → Option PyData
  | .int i, .int j => if CDivW i j then some (.int (i / j)) else none
  | _, _ => none
theorem opFdiv_ok : Op2Ok true X (binaryOp .FloorDiv) opFdiv := by
  refine ⟨_, op_fdivW, fun M H x y dx dy z h1 h2 e Q q => ?_⟩
  unfold opFdiv at e
  split at e
  · split at e
    · rename_i c
      cases e
      cases vw_int h1
      cases vw_int h2
      exact ⟨_, _, rfl, rfl, c, q _ H rok_int⟩
    · cases e
  · cases e
def opMod : PyData → PyData → Option PyData
  | .int i, .int j => if 0 < j then some (.int (i % j)) else none
  | _, _ => none
theorem opMod_ok : Op2Ok true X (binaryOp .Mod) opMod := by
  refine ⟨_, op_mod, fun M H x y dx dy z h1 h2 e Q q => ?_⟩
  unfold opMod at e
  split at e
  · split at e
    · rename_i c
      cases e
      cases vw_int h1
      cases vw_int h2
      exact ⟨_, _, rfl, rfl, c, q _ H rok_int⟩
    · cases e
  · cases e
/-! ### comparisons in order -/
def opLt : PyData → PyData → Option PyData
  | .int i, .int j => some (.bool (decide (i < j)))
  | .str x, .str y => some (.bool (decide (x.cps.toList < y.cps.toList)))
  | _, _ => none
theorem opLt_ok : Op2Ok false X (compareOp .Lt) opLt := by
  refine ⟨_, OpR.or op_lt op_lt_str, fun M H x y dx dy z h1 h2 e Q q => ?_⟩
  unfold opLt at e
  split at e
  · cases e
    cases vw_int h1
    cases vw_int h2
    exact .inl ⟨_, _, rfl, rfl, q _ H rok_bool⟩
  · cases e
    cases vw_str h1
    cases vw_str h2
    exact .inr ⟨_, _, rfl, rfl, q _ H rok_bool⟩
  · cases e
def opLe : PyData → PyData → Option PyData
  | .int i, .int j => some (.bool (decide (i ≤ j)))
  | _, _ => none
theorem opLe_ok : Op2Ok false X (compareOp .LtE) opLe := by
  refine ⟨_, op_le, fun M H x y dx dy z h1 h2 e Q q => ?_⟩
  unfold opLe at e
  split at e
  · cases e
    cases vw_int h1
    cases vw_int h2
    exact ⟨_, _, rfl, rfl, q _ H rok_bool⟩
  · cases e
def opGt : PyData → PyData → Option PyData
  | .int i, .int j => some (.bool (decide (j < i)))
  | _, _ => none
theorem opGt_ok : Op2Ok false X (compareOp .Gt) opGt := by
  refine ⟨_, op_gt, fun M H x y dx dy z h1 h2 e Q q => ?_⟩
  unfold opGt at e
  split at e
  · cases e
    cases vw_int h1
    cases vw_int h2
    exact ⟨_, _, rfl, rfl, q _ H rok_bool⟩
  · cases e
def opGe : PyData → PyData → Option PyData
  | .int i, .int j => some (.bool (decide (j ≤ i)))
  | _, _ => none
theorem opGe_ok : Op2Ok false X (compareOp .GtE) opGe := by
  refine ⟨_, op_ge, fun M H x y dx dy z h1 h2 e Q q => ?_⟩
  unfold opGe at e
  split at e
  · cases e
    cases vw_int h1
    cases vw_int h2
    exact ⟨_, _, rfl, rfl, q _ H rok_bool⟩
  · cases e
/-! ### ==, != -/
/-- flat data as values -/
def toV : PyData → Option V
  | .none => some .non | .bool b => some (.bl b) | .int i => some (.int i) | .str x => some (.str x) | _ => none
theorem toV_vw {s : Bool} {K : PySem.W.Frag} {M : List Addr} {H : Hp} {v w : V} {d : PyData} (h : VW s K M H v d) (e : toV d = some w) : v = w := by
  cases d <;> cases e
  · exact vw_none h
  · exact vw_bool h
  · exact vw_int h
  · exact vw_str h
theorem toV_da {H : Hp} {v w : V} {d : PyData} (h : DA H v d) (e : toV d = some w) : v = w := by
  cases d <;> cases e <;> (cases h; rfl)
def eqD (dx dy : PyData) : Option Bool := match toV dx, toV dy with
  | some x, some y => if scal x y = true then some (decide (x = y)) else none
  | _, _ => match dx, dy with
    | .tuple xs, .tuple [] => some xs.isEmpty
    | _, _ => if (SeqAt.shaped dx && SeqAt.shaped dy) = true then some (PyData.eqv dx dy) else none
mutual
theorem DA.dp {K : PySem.W.Frag} {H : Hp} : ∀ {v : V} {d : PyData}, DA H v d → d.canLay0 = true → Dp K H v d
  | _, _, .non, _ => .non
  | _, _, .bl b, _ => .bl b
  | _, _, .int i, _ => .int i
  | _, _, .str x, _ => .str x
  | _, _, .lst ha hd, c => .lst (.inl (.inl ha)) (DAll.dp hd c)
  | _, _, .tup ha ht hd, c => .tup (ht.sq ha) (DAll.dp hd c)
  | _, _, .dk _ _, c => nomatch c
theorem DAll.dp {K : PySem.W.Frag} {H : Hp} : ∀ {v : List V} {d : List PyData}, DAll H v d → PyData.canLayAll0 d = true → DpAll K H v d
  | _, _, .nil, _ => .nil
  | _, _, .cons h t, c => .cons (DA.dp h (Bool.and_eq_true_iff.mp c).1) (DAll.dp t (Bool.and_eq_true_iff.mp c).2)
end
theorem vw_dp {s : Bool} {K : PySem.W.Frag} {M : List Addr} {H : Hp} {v : V} {d : PyData} (h : VW s K M H v d) (c : SeqAt.shaped d = true) : Dp K H v d := by
  have c := SeqAt.canLay_of_shaped c
  cases d with
  | list ds =>
    obtain ⟨a, ys, rfl, h1, h2⟩ := h
    exact .lst (.inl (.inl h1)) (DAll.dp h2.hid c)
  | tuple ds =>
    obtain ⟨⟨a, ys, rfl, h1, h2⟩, _⟩ := h
    exact .tup h1 (DAll.dp h2.hid c)
  | dict kvs => cases c
  | _ => exact DA.dp (DA.hid h) c
def opEq (dx dy : PyData) : Option PyData := (eqD dx dy).map .bool
def opNe (dx dy : PyData) : Option PyData := (eqD dx dy).map fun b => .bool (!b)
theorem eqD_read {P0 P1 P2 : Prop} {M : List Addr} {H : Hp} {x y : V} {dx dy : PyData} {b : Bool} (h1 : VW false X.K M H x dx) (h2 : VW false X.K M H y dy) (e : eqD dx dy = some b)
    (k0 : scal x y = true → decide (x = y) = b → P0) (k1 : ∀ a c xs, x = .ref a → y = .ref c → SqT X.K H a xs → SqT X.K H c [] → xs.isEmpty = b → P1) (k2 : Dp X.K H x dx → Dp X.K H y dy → SeqAt.shaped dx = true → SeqAt.shaped dy = true → PyData.eqv dx dy = b → P2) : P0 ∨ P1 ∨ P2 := by
  unfold eqD at e
  split at e
  · rename_i u w e1 e2
    split at e
    · rename_i c
      have := toV_vw h1 e1
      subst this
      have := toV_vw h2 e2
      subst this
      exact .inl (k0 c (Option.some.inj e))
    · cases e
  · split at e
    · cases e
      obtain ⟨⟨a, us, rfl, a1, a2⟩, _⟩ := h1
      obtain ⟨⟨c, ws, rfl, b1, b2⟩, _⟩ := h2
      cases b2
      exact .inr (.inl (k1 a c us rfl rfl a1 b1 (dall_emp a2)))
    · split at e
      · rename_i c
        have c2 := Bool.and_eq_true_iff.mp c
        exact .inr (.inr (k2 (vw_dp h1 c2.1) (vw_dp h2 c2.2) c2.1 c2.2 (Option.some.inj e)))
      · cases e
theorem opEq_ok (hu : X.A.units + 64 < cLine) : Op2Ok false X (compareOp .Eq) opEq := by
  refine ⟨_, OpR.or op_eq (OpR.or (op_eq0 (by omega)) (op_eqD hu)), fun M H x y dx dy z h1 h2 e Q q => ?_⟩
  unfold opEq at e
  cases e1 : eqD dx dy with
  | none =>
    rw [e1] at e
    cases e
  | some b =>
    rw [e1] at e
    cases e
    have q := q _ H rok_bool
    exact eqD_read h1 h2 e1 (fun c e => ⟨c, by rw [e]; exact q⟩) (fun a c xs e2 e3 s1 s2 e4 => ⟨a, c, xs, e2, e3, s1, s2, by rw [e4]; exact q⟩) fun d1 d2 c1 c2 e => ⟨_, _, d1, d2, c1, c2, by rw [e]; exact q⟩
theorem opNe_ok (hu : X.A.units + 64 < cLine) : Op2Ok false X (compareOp .NotEq) opNe := by
  refine ⟨_, OpR.or op_ne (OpR.or (op_ne0 (by omega)) (op_neD hu)), fun M H x y dx dy z h1 h2 e Q q => ?_⟩
  unfold opNe at e
  cases e1 : eqD dx dy with
  | none =>
    rw [e1] at e
    cases e
  | some b =>
    rw [e1] at e
    cases e
    have q := q _ H rok_bool
    exact eqD_read h1 h2 e1 (fun c e => ⟨c, by rw [e]; exact q⟩) (fun a c xs e2 e3 s1 s2 e4 => ⟨a, c, xs, e2, e3, s1, s2, by rw [e4]; exact q⟩) fun d1 d2 c1 c2 e => ⟨_, _, d1, d2, c1, c2, by rw [e]; exact q⟩
/-! ### is None -/
/-! ### in -/
def toVs : List PyData → Option (List V)
  | [] => some []
  | d :: ds => (toV d).bind fun v => (toVs ds).map fun vs => v :: vs
def inD (dx dy : PyData) : Option Bool := match dy with
  | .list ds => (toV dx).bind fun x => (toVs ds).map fun xs => inV x xs
  | .tuple ds => (toV dx).bind fun x => (toVs ds).map fun xs => inV x xs
  | .str z => match dx with
    | .str c => match c.cps.toList with
      | [n] => some (decide (n ∈ z.cps.toList))
      | _ => none
    | _ => none
  | .dict kvs => match dx with
    | .str x => some (kvs.any fun p => match p.1 with
      | .str y => decide (x = y)
      | _ => false)
    | _ => none
  | _ => none
theorem toVs_dall {H : Hp} : ∀ {vs ws : List V} {ds : List PyData}, DAll H vs ds → toVs ds = some ws → vs = ws ∧ ws.all flatV = true
  | _, ws, _, .nil, e => by
    cases e
    exact ⟨rfl, rfl⟩
  | _, ws, _, .cons (v := v) (d := d) (ds := ds) h t, e => by
    unfold toVs at e
    cases e1 : toV d with
    | none =>
      rw [e1] at e
      cases e
    | some w =>
      rw [e1] at e
      cases e2 : toVs ds with
      | none =>
        rw [e2] at e
        cases e
      | some us =>
        rw [e2] at e
        cases e
        obtain ⟨rfl, f⟩ := toVs_dall t e2
        have := toV_da h e1
        subst this
        refine ⟨rfl, ?_⟩
        rw [List.all_cons, f, Bool.and_true]
        cases d <;> cases e1 <;> rfl
theorem flat_toV {d : PyData} {v : V} (e : toV d = some v) : flatV v = true := by
  cases d <;> cases e <;> rfl
/-- a text as a key -/
def rInD : R2 := fun x y H Q => ∃ a o, y = .ref a ∧ DGet H a x o ∧ Q (.bl o.isSome) H
theorem op_inDict (hu : X.A.units + 1 < cLine) : OpR X (compareOp .In) rInD := by
  intro pins s σ H x y v u Q I rx ry h
  obtain ⟨a, o, rfl, g, q⟩ := h
  cases ry
  exact d_in hu I g rx fun s3 I3 => ⟨.bl o.isSome, H, I3, rfl, q⟩
def rNotInD : R2 := fun x y H Q => ∃ a o, y = .ref a ∧ DGet H a x o ∧ Q (.bl (!o.isSome)) H
theorem op_notInDict (hu : X.A.units + 1 < cLine) : OpR X (compareOp .NotIn) rNotInD := by
  intro pins s σ H x y v u Q I rx ry h
  obtain ⟨a, o, rfl, g, q⟩ := h
  cases ry
  exact d_notIn hu I g rx fun s3 I3 => ⟨.bl (!o.isSome), H, I3, rfl, q⟩
theorem valV_any {H : Hp} {x : Str} : ∀ {kvs : List (Key × V)} {ds : List PyData}, DAll H (kvs.map (·.2)) ds → (valV kvs (.inr x)).isSome = (zipKD kvs ds).any fun p => match p.1 with
      | .str y => decide (x = y)
      | _ => false
  | [], ds, _ => rfl
  | (k, v) :: r, _, .cons (d := d) (ds := ds) h t => by
    have ih := valV_any (x := x) t
    have e : zipKD ((k, v) :: r) (d :: ds) = (keyD' k, d) :: zipKD r ds := rfl
    rw [e, List.any_cons, ← ih]
    by_cases c : k = .inr x
    · subst c
      rw [valV_pos rfl]
      simp [keyD']
    · rw [valV_neg c]
      cases k with
      | inl i => simp [keyD']
      | inr y =>
        have : ¬ x = y := fun z => c (by rw [z])
        simp [keyD', this]
theorem inD_read {P0 P1 P2 : Prop} {M : List Addr} {H : Hp} {x y : V} {dx dy : PyData} {b : Bool} (h1 : VW false X.K M H x dx) (h2 : VW false X.K M H y dy) (e : inD dx dy = some b)
    (k0 : ∀ a xs, y = .ref a → (SqL X.K H a xs ∨ SqT X.K H a xs) → flatV x = true → xs.all flatV = true → inV x xs = b → P0) (k1 : ∀ (c : Nat) (z : Str), x = .str ⟨#[c]⟩ → y = .str z → decide (c ∈ z.cps.toList) = b → P1)
    (k2 : ∀ a o, y = .ref a → DGet H a x o → o.isSome = b → P2) : P0 ∨ P1 ∨ P2 := by
  have seq : ∀ ds : List PyData, ((toV dx).bind fun x => (toVs ds).map fun xs => inV x xs) = some b → (∃ a ys, y = .ref a ∧ (SqL X.K H a ys ∨ SqT X.K H a ys) ∧ DAll (Hid M H) ys ds) → P0 ∨ P1 ∨ P2 := fun ds e ⟨a, ys, ey, hs, hd⟩ => by
    cases e1 : toV dx with
    | none =>
      rw [e1] at e
      cases e
    | some w =>
      rw [e1] at e
      cases e2 : toVs ds with
      | none =>
        rw [e2] at e
        cases e
      | some us =>
        rw [e2] at e
        cases e
        obtain ⟨rfl, f⟩ := toVs_dall hd e2
        have := toV_vw h1 e1
        subst this
        exact .inl (k0 a ys ey hs (flat_toV e1) f rfl)
  unfold inD at e
  split at e
  · obtain ⟨a, ys, rfl, b1, b2⟩ := h2
    exact seq _ e ⟨a, ys, rfl, .inl (.inl (.inl b1)), b2⟩
  · obtain ⟨⟨a, ys, rfl, b1, b2⟩, _⟩ := h2
    exact seq _ e ⟨a, ys, rfl, .inr b1, b2⟩
  · rename_i z
    cases vw_str h2
    split at e
    · rename_i c
      cases vw_str h1
      split at e
      · rename_i n hn
        refine .inr (.inl (k1 n z ?_ rfl (Option.some.inj e)))
        obtain ⟨cps⟩ := c
        have : cps = #[n] := by
          rw [← Array.toArray_toList (xs := cps)]
          exact congrArg List.toArray hn
        rw [this]
      · cases e
    · cases e
  · rename_i kvs
    split at e
    · rename_i z
      cases vw_str h1
      cases (show DA (Hid M H) y (.dict kvs) from h2)
      rename_i a kvs ds ha hd
      exact .inr (.inr (k2 a (valV kvs (.inr z)) rfl (.inl ⟨kvs, .inr z, .inl (hid_at ha).1, rfl, rfl⟩) (by rw [valV_any hd]; exact Option.some.inj e)))
    · cases e
  · cases e
def opIn (dx dy : PyData) : Option PyData := (inD dx dy).map .bool
def opNotIn (dx dy : PyData) : Option PyData := (inD dx dy).map fun b => .bool (!b)
theorem opIn_ok (hu : X.A.units + 1 < cLine) : Op2Ok false X (compareOp .In) opIn := by
  refine ⟨_, OpR.or op_in_seq (OpR.or op_in_sign (op_inDict hu)), fun M H x y dx dy z h1 h2 e Q q => ?_⟩
  unfold opIn at e
  cases e1 : inD dx dy with
  | none =>
    rw [e1] at e
    cases e
  | some b =>
    rw [e1] at e
    cases e
    have q := q _ H rok_bool
    exact inD_read h1 h2 e1 (fun a xs ey hs f1 f2 e => ⟨a, xs, ey, hs, f1, f2, by rw [e]; exact q⟩) (fun c z ex ey e => ⟨c, z, ex, ey, by rw [e]; exact q⟩) fun a o ey g e => ⟨a, o, ey, g, by rw [e]; exact q⟩
theorem opNotIn_ok (hu : X.A.units + 1 < cLine) : Op2Ok false X (compareOp .NotIn) opNotIn := by
  refine ⟨_, OpR.or op_notIn_seq (OpR.or op_notIn_sign (op_notInDict hu)), fun M H x y dx dy z h1 h2 e Q q => ?_⟩
  unfold opNotIn at e
  cases e1 : inD dx dy with
  | none =>
    rw [e1] at e
    cases e
  | some b =>
    rw [e1] at e
    cases e
    have q := q _ H rok_bool
    exact inD_read h1 h2 e1 (fun a xs ey hs f1 f2 e => ⟨a, xs, ey, hs, f1, f2, by rw [if_pos rfl, e]; exact q⟩) (fun c z ex ey e => ⟨c, z, ex, ey, by rw [e]; exact q⟩) fun a o ey g e => ⟨a, o, ey, g, by rw [e]; exact q⟩
end
end Cb

end

section
set_option maxRecDepth 100000
set_option maxHeartbeats 4000000
set_option autoImplicit false
/-! Pf, part J: items, slices, calls of what is built in, methods of lists, what a loop walks. -/
namespace Cb
open PySem PySem.Spec PyProof.Rows L2
theorem atI_map {H : Hp} {ys : List V} {ds : List PyData} {i : Int} {d : PyData} (h : DAll H ys ds) (e : atI ds i = some d) : ∃ v, atI ys i = some v ∧ DA H v d := by
  unfold atI at e ⊢
  rw [h.length]
  cases e1 : ixN ds.length i with
  | none =>
    rw [e1] at e
    cases e
  | some j =>
    rw [e1] at e
    have e : ds[j]? = some d := e
    have hj : j < ys.length := by
      rw [h.length]
      exact (List.getElem?_eq_some_iff.mp e).1
    have e2 : ys[j]? = some ys[j] := List.getElem?_eq_getElem hj
    obtain ⟨d2, e3, e4⟩ := dall_at h e2
    rw [e] at e3
    cases e3
    exact ⟨_, e2, e4⟩
section
variable {X : Cx}
/-! ### items -/
def opIx : PyData → PyData → Option PyData
  | .list ds, .int i => atI ds i
  | .tuple ds, .int i => atI ds i
  | .str z, .int i => if z.length ≤ 4000000 then (atI z.cps.toList i).map fun c => .str ⟨#[c]⟩ else none
  | _, _ => none
theorem opIx_ok : Ix2Ok X opIx := by
  refine ⟨_, IxR.or ix_list (IxR.or ix_tup ix_str), fun M H x y dx dy z h1 h2 e Q q => ?_⟩
  unfold opIx at e
  split at e
  · cases vw_int h2
    obtain ⟨a, us, rfl, a1, a2⟩ := h1
    obtain ⟨v, e1, e2⟩ := atI_map a2 e
    exact .inl ⟨a, us, _, v, rfl, rfl, .inl (.inl a1), e1, q v e2⟩
  · cases vw_int h2
    obtain ⟨⟨a, us, rfl, a1, a2⟩, _⟩ := h1
    obtain ⟨v, e1, e2⟩ := atI_map a2 e
    exact .inr (.inl ⟨a, us, _, v, rfl, rfl, a1, e1, q v e2⟩)
  · rename_i t i
    split at e
    · rename_i c
      cases vw_int h2
      cases vw_str h1
      cases e1 : atI t.cps.toList i with
      | none =>
        rw [e1] at e
        cases e
      | some n =>
        rw [e1] at e
        cases e
        exact .inr (.inr ⟨t, i, n, rfl, rfl, line4 c, e1, q _ (.str _)⟩)
    · cases e
  · cases e
/-! ### d[k], d.get(k, x) of a dict -/
def keyOf : PyData → Option Key
  | .int i => some (.inl i)
  | .str x => some (.inr x)
  | _ => none
def lookD (kvs : List (PyData × PyData)) (k : Key) : Option PyData := (kvs.find? fun p => decide (keyOf p.1 = some k)).map (·.2)
theorem lookD_val {H : Hp} {k : Key} : ∀ {kvs : List (Key × V)} {ds : List PyData}, DAll H (kvs.map (·.2)) ds → (valV kvs k = none ∧ lookD (zipKD kvs ds) k = none) ∨ ∃ v d, valV kvs k = some v ∧ lookD (zipKD kvs ds) k = some d ∧ DA H v d
  | [], _, _ => .inl ⟨rfl, rfl⟩
  | (j, v) :: r, _, .cons (d := d) (ds := ds) h t => by
    have e : zipKD ((j, v) :: r) (d :: ds) = (keyD' j, d) :: zipKD r ds := rfl
    have ek : keyOf (keyD' j) = some j := by cases j <;> rfl
    by_cases c : j = k
    · subst c
      refine .inr ⟨v, d, valV_pos rfl, ?_, h⟩
      rw [e]
      unfold lookD
      rw [List.find?_cons, decide_eq_true (by exact ek)]
      rfl
    · have e2 : lookD ((keyD' j, d) :: zipKD r ds) k = lookD (zipKD r ds) k := by
        unfold lookD
        rw [List.find?_cons, decide_eq_false (by
          rw [ek]
          exact fun z => c (Option.some.inj z))]
      rw [e, e2, valV_neg c]
      exact lookD_val t
theorem kV_of {s : Bool} {K : PySem.W.Frag} {M : List Addr} {H : Hp} {v : V} {d : PyData} {k : Key} (h : VW s K M H v d) (e : keyOf d = some k) : v = kV k := by
  cases d <;> cases e
  · exact vw_int h
  · exact vw_str h
theorem da_dict {H : Hp} {v : V} {kvs : List (PyData × PyData)} (h : DA H v (.dict kvs)) : ∃ a ks ds, v = .ref a ∧ H a = some (.dK ks) ∧ kvs = zipKD ks ds ∧ DAll H (ks.map (·.2)) ds := by
  cases h with
  | dk h1 h2 => exact ⟨_, _, _, rfl, h1, rfl, h2⟩
section
variable {e1 e2 e3 : Expr} {F G F3 : FM RV} {pos : Pos}
def fIxD (F G : FM RV) : FM RV := fIx (fun d k => match d with
  | .dict kvs => (keyOf k).bind (lookD kvs)
  | _ => none) F G
def fGet2 (F G F3 : FM RV) : FM RV := fbind F fun x => match x with
  | .dat (.dict kvs) => fbind G fun y => fbind F3 fun r => fbind (toDat r) fun w => fun ρ => (view false ρ y).bind fun dk => (keyOf dk).map fun k => (.dat ((lookD kvs k).getD w), ρ)
  | _ => fun _ => none
theorem o_get2 [TC : TabsC] {apos : Pos} (h1 : OOk X e1 F) (h2 : OOk X e2 G) (h3 : OOk X e3 F3) (mk : ∀ t1 t2 t3, PE X e1 t1 → PE X e2 t2 → PE X e3 t3 → PE X (.Call (.Attribute e1 "get" apos) [e2, e3] [] pos) (tDGet2 t1 t2 t3)) :
    OOk X (.Call (.Attribute e1 "get" apos) [e2, e3] [] pos) (fGet2 F G F3) := by
  obtain ⟨t1, p1, q1⟩ := h1
  obtain ⟨t2, p2, q2⟩ := h2
  obtain ⟨t3, p3, q3⟩ := h3
  refine ⟨_, mk t1 t2 t3 p1 p2 p3, fun S M σ H ρ r ρ' R e Q q => ?_⟩
  obtain ⟨x, ρ1, ex, e⟩ := fbind_some e
  split at e
  · rename_i kvs
    obtain ⟨y, ρ2, ey, e⟩ := fbind_some e
    obtain ⟨r3, ρ3, ez, e⟩ := fbind_some e
    obtain ⟨w, ρ4, ew, e⟩ := fbind_some e
    cases ev : view false ρ4 y with
    | none =>
      rw [ev] at e
      cases e
    | some dk =>
      rw [ev] at e
      have e : (keyOf dk).map (fun k => (RV.dat ((lookD kvs k).getD w), ρ4)) = some (r, ρ') := e
      cases ek : keyOf dk with
      | none =>
        rw [ek] at e
        cases e
      | some k =>
        rw [ek] at e
        cases e
        refine q1 S M σ H ρ _ _ R ex _ fun M1 vx1 H1 R1 s1 k1 => ?_
        obtain ⟨a, ks, ds, rfl, ha, rfl, hd⟩ := da_dict k1
        refine ⟨a, rfl, .inl ⟨ks, .inl (hid_at ha).1⟩, q2 S M1 σ H1 ρ1 _ _ R1 ey _ fun M2 vy1 H2 R2 s2 k2 => q3 S M2 σ H2 ρ2 _ _ R2 ez _ fun M3 vz H3 R3 s3 k3 => ?_⟩
        obtain ⟨M4, b1, b2, b3⟩ := toDat_ok R2 s3 R3 k3 ew
        have t4 := s2.trans b2
        have ha4 := (hid_at (t4.vis _ _ ha)).1
        have hd4 := hd.same t4.vis
        have w2 := view_ok b1 (k2.keep b2) ev
        rcases lookD_val (k := k) hd4 with ⟨c0, c⟩ | ⟨v, d, c1, c2, c3⟩
        · refine ⟨none, .inl ⟨ks, k, .inl ha4, kV_of w2 ek, c0.symm⟩, q M4 vz H3 b1 (s1.trans t4) ?_⟩
          rw [c]
          exact b3
        · refine ⟨some v, .inl ⟨ks, k, .inl ha4, kV_of w2 ek, c1.symm⟩, q M4 v H3 b1 (s1.trans t4) ?_⟩
          rw [c2]
          exact c3
  · cases e
end
/-! ### slices -/
def cutD (ds : List PyData) (lo hi : Option Int) : List PyData := (ds.drop (HT.sIx ds.length 0 lo)).take (HT.sIx ds.length ds.length hi - HT.sIx ds.length 0 lo)
theorem DAll.cut {H : Hp} {ys : List V} {ds : List PyData} (h : DAll H ys ds) (lo hi : Option Int) : DAll H (cutV ys lo hi) (cutD ds lo hi) := by
  unfold cutV cutD
  rw [h.length]
  exact DAll.take _ (DAll.drop _ h)
def opSl : PyData → Option Int → Option Int → Option PyData
  | .list ds, lo, hi => some (.list (cutD ds lo hi))
  | .tuple ds, lo, hi => some (.tuple (cutD ds lo hi))
  | .str z, lo, hi => if z.length ≤ 4000000 then some (.str (cutS z lo hi)) else none
  | _, _, _ => none
theorem cut_whole {ds : List PyData} {lo hi : Option Int} (h : HT.sIx ds.length 0 lo = 0 ∧ HT.sIx ds.length ds.length hi = ds.length) : cutD ds lo hi = ds := by
  unfold cutD
  rw [h.1, h.2]
  simp
theorem opSl_ok : Sl2Ok X opSl := by
  refine ⟨_, SlR.or sl_list (SlR.or sl_tupF (SlR.or sl_tupA sl_str)), fun M H x dx z lo hi h1 e Q q => ?_⟩
  unfold opSl at e
  split at e
  · cases e
    obtain ⟨a, us, rfl, a1, a2⟩ := h1
    exact .inl ⟨a, us, rfl, .inl (.inl a1), fun p hp => q _ _ (rok_lst hp (a2.cut lo hi))⟩
  · rename_i ds
    cases e
    obtain ⟨⟨a, us, rfl, a1, a2⟩, a3⟩ := h1
    by_cases c : HT.sIx us.length 0 lo = 0 ∧ HT.sIx us.length us.length hi = us.length
    · refine .inr (.inr (.inl ⟨a, us, rfl, a1, fun _ => q _ H ⟨L2.Same.refl _, ?_⟩, fun n => absurd c n⟩))
      rw [cut_whole (by rw [← a2.length]; exact c)]
      exact a3 rfl
    · exact .inr (.inl ⟨a, us, rfl, a1, c, fun p u hu hp => q _ _ (rok_tup hp hu (a2.cut lo hi))⟩)
  · split at e
    · rename_i c
      cases e
      cases vw_str h1
      exact .inr (.inr (.inr ⟨_, rfl, line4 c, q _ H rok_str⟩))
    · cases e
  · cases e
/-! ### calls -/
theorem vws1 {s : Bool} {K : PySem.W.Frag} {M : List Addr} {H : Hp} {vs : List V} {d : PyData} (h : AllVW s K M H vs [d]) : ∃ v, vs = [v] ∧ VW s K M H v d := by
  cases h with
  | cons h t =>
    cases t
    exact ⟨_, rfl, h⟩
theorem vws2 {s : Bool} {K : PySem.W.Frag} {M : List Addr} {H : Hp} {vs : List V} {d e : PyData} (h : AllVW s K M H vs [d, e]) : ∃ v w, vs = [v, w] ∧ VW s K M H v d ∧ VW s K M H w e := by
  cases h with
  | cons h t =>
    obtain ⟨w, rfl, h2⟩ := vws1 t
    exact ⟨_, _, rfl, h, h2⟩
def opLen : List PyData → Option PyData
  | [.list ds] => some (.int ds.length)
  | [.tuple ds] => some (.int ds.length)
  | [.str z] => if z.length ≤ 4000000 then some (.int z.length) else none
  | _ => none
theorem opLen_ok : CallOk false X (.builtin "len") opLen := by
  refine ⟨_, CallR.or call_len_seq call_len_str, fun M H vs ds z h e Q q => ?_⟩
  unfold opLen at e
  split at e
  · cases e
    obtain ⟨v, rfl, a, us, rfl, a1, a2⟩ := vws1 h
    exact .inl ⟨a, us, rfl, .inl (.inl (.inl a1)), by rw [a2.length]; exact q _ H rok_int⟩
  · cases e
    obtain ⟨v, rfl, ⟨a, us, rfl, a1, a2⟩, _⟩ := vws1 h
    exact .inl ⟨a, us, rfl, .inr a1, by rw [a2.length]; exact q _ H rok_int⟩
  · split at e
    · rename_i c
      cases e
      obtain ⟨v, rfl, h'⟩ := vws1 h
      cases vw_str h'
      exact .inr ⟨_, rfl, line4 c, q _ H rok_int⟩
    · cases e
  · cases e
def opInt : List PyData → Option PyData
  | [.int i] => some (.int i)
  | [.bool b] => some (.int (if b then 1 else 0))
  | _ => none
theorem opInt_ok : CallOk false X (.type "int") opInt := by
  refine ⟨_, call_int1, fun M H vs ds z h e Q q => ?_⟩
  unfold opInt at e
  split at e
  · cases e
    obtain ⟨v, rfl, h'⟩ := vws1 h
    cases vw_int h'
    exact .inl ⟨_, rfl, q _ H rok_int⟩
  · cases e
    obtain ⟨v, rfl, h'⟩ := vws1 h
    cases vw_bool h'
    exact .inr ⟨_, rfl, q _ H rok_int⟩
  · cases e
def opStr : List PyData → Option PyData
  | [.int i] => if i.natAbs.log2 < 1920 then some (.str (toString i)) else none
  | _ => none
theorem opStr_ok : CallOk false X (.type "str") opStr := by
  refine ⟨_, call_str_int, fun M H vs ds z h e Q q => ?_⟩
  unfold opStr at e
  split at e
  · split at e
    · rename_i c
      cases e
      obtain ⟨v, rfl, h'⟩ := vws1 h
      cases vw_int h'
      exact ⟨_, rfl, c, q _ H rok_str⟩
    · cases e
  · cases e
def opAbs : List PyData → Option PyData
  | [.int i] => some (.int (if i < 0 then -i else i))
  | _ => none
theorem opAbs_ok : CallOk false X (.builtin "abs") opAbs := by
  refine ⟨_, call_abs, fun M H vs ds z h e Q q => ?_⟩
  unfold opAbs at e
  split at e
  · cases e
    obtain ⟨v, rfl, h'⟩ := vws1 h
    cases vw_int h'
    exact ⟨_, rfl, q _ H rok_int⟩
  · cases e
def toInts : List PyData → Option (List Int)
  | [] => some []
  | .int i :: ds => (toInts ds).map fun is => i :: is
  | _ => none
def toBools : List PyData → Option (List Bool)
  | [] => some []
  | .bool i :: ds => (toBools ds).map fun is => i :: is
  | _ => none
theorem bools_dall {H : Hp} : ∀ {ys : List V} {ds : List PyData} {is : List Bool}, DAll H ys ds → toBools ds = some is → ys = is.map V.bl
  | _, _, is, .nil, e => by
    cases e
    rfl
  | _, _, is, .cons (d := d) (ds := ds) h t, e => by
    cases d with
    | bool i =>
      unfold toBools at e
      cases e2 : toBools ds with
      | none =>
        rw [e2] at e
        cases e
      | some js =>
        rw [e2] at e
        cases e
        cases h
        rw [bools_dall t e2]
        rfl
    | _ => cases e
def opSum : List PyData → Option PyData
  | [.list ds] => (toInts ds).map fun is => .int is.sum
  | _ => none
def opAll : List PyData → Option PyData
  | [.list ds] => (toBools ds).map fun is => .bool (is.all id)
  | _ => none
theorem opAll_ok (hc : X.calm = true) : CallOk false X (.builtin "all") opAll := by
  refine ⟨_, cr_all hc, fun M H vs ds z h e Q q => ?_⟩
  unfold opAll at e
  split at e
  · rename_i es
    cases e1 : toBools es with
    | none =>
      rw [e1] at e
      cases e
    | some is =>
      rw [e1] at e
      cases e
      obtain ⟨v, rfl, a, us, rfl, a1, a2⟩ := vws1 h
      have := bools_dall a2 e1
      subst this
      exact ⟨a, is, rfl, .inl (.inl a1), q _ H rok_bool⟩
  · cases e
def opAny : List PyData → Option PyData
  | [.list ds] => (toBools ds).map fun is => .bool (is.any id)
  | _ => none
theorem opAny_ok (hc : X.calm = true) : CallOk false X (.builtin "any") opAny := by
  refine ⟨_, cr_any hc, fun M H vs ds z h e Q q => ?_⟩
  unfold opAny at e
  split at e
  · rename_i es
    cases e1 : toBools es with
    | none =>
      rw [e1] at e
      cases e
    | some is =>
      rw [e1] at e
      cases e
      obtain ⟨v, rfl, a, us, rfl, a1, a2⟩ := vws1 h
      have := bools_dall a2 e1
      subst this
      exact ⟨a, is, rfl, .inl (.inl a1), q _ H rok_bool⟩
  · cases e
def opTuple : List PyData → Option PyData
  | [.list ds] => some (.tuple ds)
  | [.tuple ds] => some (.tuple ds)
  | _ => none
theorem opTuple_ok : CallOk true X (.type "tuple") opTuple := by
  refine ⟨_, call_tuple_ofF, fun M H vs ds z h e Q q => ?_⟩
  unfold opTuple at e
  split at e
  · cases e
    obtain ⟨v, rfl, a, us, rfl, a1, a2⟩ := vws1 h
    exact ⟨a, us, rfl, .inl ⟨.inl (.inl a1), fun l u hu hl => q _ _ (rok_tup hl hu a2)⟩⟩
  · cases e
    obtain ⟨v, rfl, ⟨a, us, rfl, a1, a2⟩, a3⟩ := vws1 h
    exact ⟨a, us, rfl, .inr ⟨a1, q _ H ⟨L2.Same.refl _, a3 rfl⟩⟩⟩
  · cases e
def opList : List PyData → Option PyData
  | [.list ds] => some (.list ds)
  | [.tuple ds] => some (.list ds)
  | _ => none
theorem opList_ok : CallOk false X (.type "list") opList := by
  refine ⟨_, call_list_of, fun M H vs ds z h e Q q => ?_⟩
  unfold opList at e
  split at e
  · cases e
    obtain ⟨v, rfl, a, us, rfl, a1, a2⟩ := vws1 h
    exact ⟨a, us, rfl, .inl (.inl (.inl a1)), fun l hl => q _ _ (rok_lst hl a2)⟩
  · cases e
    obtain ⟨v, rfl, ⟨a, us, rfl, a1, a2⟩, _⟩ := vws1 h
    exact ⟨a, us, rfl, .inr a1, fun l hl => q _ _ (rok_lst hl a2)⟩
  · cases e
/-- a datum that can be shown -/
def fitB (d : PyData) : Bool := d.showable && decide (d.shown.length ≤ gN) && decide (d.depth ≤ 100) && okd d
theorem fit_of {d : PyData} (h : fitB d = true) : Fit gN 100 d := by
  have h1 := Bool.and_eq_true_iff.mp h
  have h2 := Bool.and_eq_true_iff.mp h1.1
  have h3 := Bool.and_eq_true_iff.mp h2.1
  exact ⟨h3.1, of_decide_eq_true h3.2, of_decide_eq_true h2.2, h1.2⟩
def opRepr : List PyData → Option PyData
  | [d] => if fitB d = true then some (.str d.shown) else none
  | _ => none
theorem opRepr_ok (hg : X.A.guards = some []) (hu : X.A.units + (100 + 1) < cLine) : CallOk true X (.builtin "repr") opRepr := by
  refine ⟨_, call_reprD (m := 100) hg hu, fun M H vs ds z h e Q q => ?_⟩
  unfold opRepr at e
  split at e
  · rename_i d
    split at e
    · rename_i c
      cases e
      obtain ⟨v, rfl, h'⟩ := vws1 h
      have hd : DA H v d := by
        cases d with
        | list ds =>
          obtain ⟨a, us, rfl, a1, a2⟩ := h'
          exact .lst a1 a2.hid
        | tuple ds => exact (h'.2 rfl).hid
        | _ => exact DA.hid h'
      exact ⟨v, d, gN, rfl, hd, fit_of c, by decide, q _ H rok_str⟩
    · cases e
  · cases e
end
end Cb

end

section
set_option maxRecDepth 100000
set_option maxHeartbeats 4000000
set_option autoImplicit false
/-! Pf, part K: methods of lists, what a loop walks, several names at once, x += e, divmod, keywords. -/
namespace Cb
open PySem PySem.Spec PyProof.Rows L2
section
variable {X : Cx}
/-! ### divmod: a plain new tuple -/
theorem call_divmodF : CallR X (.builtin "divmod") (fun xs H Q => ∃ i j, xs = [.int i, .int j] ∧ CDivP i j ∧ ∀ p u, TupO u [.int (i / j), .int (i % j)] → H p = none → Q (.ref p) (upd H p u)) := by
  intro pins s σ H xs us Q I r h
  obtain ⟨i, j, rfl, ⟨h1, h2⟩, q⟩ := h
  obtain ⟨u, w', rfl, ⟨t, rfl⟩, ⟨t', rfl⟩⟩ := vals2 r
  refine divmod_int (by omega) ?_ (.inl h2)
  rw [Int.fdiv_eq_ediv_of_nonneg i (by omega), Int.fmod_eq_emod_of_nonneg i (by omega)]
  exact laidF (s := { s with toks := s.toks + 1 + 1 }) (h' := s.heap) (xs := [.int (i / j), .int (i % j)]) (its := [.int (i / j) s.toks, .int (i % j) (s.toks + 1)]) ((I.tok _).tok _) (.cons ⟨_, rfl⟩ (.cons ⟨_, rfl⟩ .nil)) (by show 2 ≤ sizeLine; decide) q
def opDivmod : List PyData → Option PyData
  | [.int i, .int j] => if 0 < j ∧ j < 2 ^ 200 then some (.tuple [.int (i / j), .int (i % j)]) else none
  | _ => none
theorem opDivmod_ok : CallOk false X (.builtin "divmod") opDivmod := by
  refine ⟨_, call_divmodF, fun M H vs ds z h e Q q => ?_⟩
  unfold opDivmod at e
  split at e
  · split at e
    · rename_i c
      cases e
      obtain ⟨v, w, rfl, h1, h2⟩ := vws2 h
      cases vw_int h1
      cases vw_int h2
      exact ⟨_, _, rfl, divp_small c.1 c.2, fun p u hu hp => q _ _ (rok_tup hp hu (.cons (.int _) (.cons (.int _) .nil)))⟩
    · cases e
  · cases e
/-! ### methods that change a list -/
section
variable {e1 e2 : Expr} {F G : FM RV} {e : Expr} {S : Sit} {M : List Addr} {σ : L2.St} {H : Hp} {ρ : List SV}
/-- the list in a slot -/
theorem Rel.lstAt [TC : TabsC] (R : Rel S M σ H ρ) {i : Nat} {s : SV} {ds : List PyData} (hs : ρ[i]? = some s) (l : s.lst = some ds) {v : V} (k : σ[i]? = some (some v)) : ∃ a ys, v = .ref a ∧ a ∈ M ∧ H a = some (.lst ys) ∧ DAll (Hid M H) ys ds := by
  have h3 := R.slots i s hs
  cases s with
  | un => cases l
  | fix v => cases l
  | d x => cases l
  | own es =>
    obtain ⟨a, ys, b1, b2, b3, b4, _⟩ := h3
    rw [k] at b1
    cases b1
    cases l
    exact ⟨a, ys, rfl, b2, b3, b4⟩
  | par es =>
    obtain ⟨a, ys, b1, b2, b3, b4, _⟩ := h3
    rw [k] at b1
    cases b1
    cases l
    exact ⟨a, ys, rfl, b2, b3, b4⟩
theorem Rel.storeT [TC : TabsC] (R : Rel S M σ H ρ) {i : Nat} {s : SV} {ds es : List PyData} {p : Addr} {zs : List V} (hs : ρ[i]? = some s) (l : s.lst = some ds) (g : σ[i]? = some (some (.ref p))) (hz : DAll (Hid M H) zs es) :
    Rel S M σ (upd H p (.lst zs)) (ρ.set i (s.put es)) ∧ Tr σ M H ρ M (upd H p (.lst zs)) (ρ.set i (s.put es)) := by
  obtain ⟨a1, a2⟩ := R.store hs l g hz
  have ln : s.lst ≠ none := by rw [l]; exact fun z => nomatch z
  refine ⟨a1, a2, fun b zs m e nt ns => ⟨m, ?_⟩, fun b ns j u hj l => ?_, fun b nb => ?_⟩
  · have c : b ≠ p := fun z => by
      subst z
      exact ns i s hs ln g
    rw [upd_ne c]
    exact e
  · rcases set_get hj with ⟨rfl, rfl⟩ | ⟨_, h2⟩
    · exact ns _ s hs ln
    · exact ns j u h2 l
  · by_cases c : b = p
    · subst c
      exact (noT_none' nb upd_same rfl).elim
    · rw [noT_ne c] at nb
      exact nb
/-- the slot's list and the slot with another one -/
def lstOf (r : RV) (ρ : List SV) : Option (Nat × SV × List PyData) := match r with
  | .slot i => match ρ[i]? with
    | some s => s.lst.map fun ds => (i, s, ds)
    | none => none
  | _ => none
theorem lstOf_some {r : RV} {i : Nat} {s : SV} {ds : List PyData} (h : lstOf r ρ = some (i, s, ds)) : r = .slot i ∧ ρ[i]? = some s ∧ s.lst = some ds := by
  unfold lstOf at h
  split at h
  · rename_i j
    split at h
    · rename_i t ht
      cases hl : t.lst with
      | none =>
        rw [hl] at h
        cases h
      | some es =>
        rw [hl] at h
        cases h
        exact ⟨rfl, ht, hl⟩
    · cases h
  · cases h
def needL (r : RV) : FM Unit := fun ρ => (lstOf r ρ).map fun _ => ((), ρ)
theorem needL_some {r : RV} {ρ' : List SV} {u : Unit} (h : needL r ρ = some (u, ρ')) : ρ' = ρ ∧ ∃ i s ds, r = .slot i ∧ ρ[i]? = some s ∧ s.lst = some ds := by
  unfold needL at h
  cases e : lstOf r ρ with
  | none =>
    rw [e] at h
    cases h
  | some t =>
    obtain ⟨i, s, ds⟩ := t
    rw [e] at h
    cases h
    exact ⟨rfl, i, s, ds, lstOf_some e⟩
/-- xs.m(e) -/
def fMut (g : List PyData → PyData → Option (PyData × List PyData)) (F G : FM RV) : FM RV := fbind F fun r => fbind (needL r) fun _ => fbind G fun a => fbind (toDat a) fun x => fun ρ => (lstOf r ρ).bind fun q => (g q.2.2 x).map fun z => (.dat z.1, ρ.set q.1 (q.2.1.put z.2))
/-- .. where the argument is a list that is looked at -/
def fMutV (g : List PyData → PyData → Option (PyData × List PyData)) (F G : FM RV) : FM RV := fbind F fun r => fbind (needL r) fun _ => fbind G fun a => fun ρ => (view false ρ a).bind fun x => (lstOf r ρ).bind fun q => (g q.2.2 x).map fun z => (.dat z.1, ρ.set q.1 (q.2.1.put z.2))
theorem o_mut [TC : TabsC] {r0 : V → List V → Hp → VK → Prop} {g : List PyData → PyData → Option (PyData × List PyData)} (h1 : OOk X e1 F) (h2 : OOk X e2 G) (mk : ∀ t t2, PE X e1 t → PE X e2 t2 → PE X e (tBM X.K "list" r0 t (tCons t2 tNil)))
    (hr : ∀ (M : List Addr) (H : Hp) (a : Addr) (ys : List V) (ds : List PyData) (w : V) (x z : PyData) (es : List PyData) (Q : VK), H a = some (.lst ys) → DAll (Hid M H) ys ds → DA (Hid M H) w x → g ds x = some (z, es) → (∀ v zs, DAll (Hid M H) zs es → DA (Hid M H) v z → Q v (upd H a (.lst zs))) → r0 (.ref a) [w] H Q) : OOk X e (fMut g F G) := by
  obtain ⟨t1, p1, q1⟩ := h1
  obtain ⟨t2, p2, q2⟩ := h2
  refine ⟨_, mk t1 t2 p1 p2, fun S M σ H ρ r ρ' R e Q q => ?_⟩
  obtain ⟨rx, ρ1, ex, e⟩ := fbind_some e
  obtain ⟨u, ρ0, eu, e3⟩ := fbind_some e
  obtain ⟨rfl, i0, s0, ds0, er, hs0, hl0⟩ := needL_some eu
  obtain ⟨ra, ρ2, ey, e⟩ := fbind_some e3
  obtain ⟨x, ρ3, ez, e⟩ := fbind_some e
  cases el : lstOf rx ρ3 with
  | none =>
    rw [el] at e
    cases e
  | some t =>
    obtain ⟨i, s, ds⟩ := t
    rw [el] at e
    have e : (g ds x).map (fun z => (RV.dat z.1, ρ3.set i (s.put z.2))) = some (r, ρ') := e
    cases eg : g ds x with
    | none =>
      rw [eg] at e
      cases e
    | some z =>
      rw [eg] at e
      cases e
      obtain ⟨er2, hs, hl⟩ := lstOf_some el
      rw [er] at er2
      cases er2
      subst er
      refine q1 S M σ H ρ _ _ R ex _ fun M1 v H1 R1 s1 k1 => ?_
      obtain ⟨a0, ys0, rfl, c1, c2, c3⟩ := R1.lstAt hs0 hl0 k1
      refine ⟨.inl ⟨rfl, _, .inl (.inl c2)⟩, ?_⟩
      refine q2 S M1 σ H1 _ _ _ R1 ey _ fun M2 w H2 R2 s2 k2 => ?_
      obtain ⟨M3, b1, b2, b3⟩ := toDat_ok R1 s2 R2 k2 ez
      obtain ⟨a, ys, ea, d1, d2, d3⟩ := b1.lstAt hs hl k1
      cases ea
      refine hr M3 H2 _ ys ds w x z.1 z.2 _ d2 d3 b3 eg fun v zs hz hv => ?_
      obtain ⟨R4, t4⟩ := b1.storeT hs hl k1 hz
      exact q M3 v _ R4 ((s1.trans b2).trans t4) (DA.same hv t4.vis)
theorem o_mutV [TC : TabsC] {r0 : V → List V → Hp → VK → Prop} {g : List PyData → PyData → Option (PyData × List PyData)} (h1 : OOk X e1 F) (h2 : OOk X e2 G) (mk : ∀ t t2, PE X e1 t → PE X e2 t2 → PE X e (tBM X.K "list" r0 t (tCons t2 tNil)))
    (hr : ∀ (M : List Addr) (H : Hp) (a : Addr) (ys : List V) (ds : List PyData) (w : V) (x z : PyData) (es : List PyData) (Q : VK), H a = some (.lst ys) → DAll (Hid M H) ys ds → VW false X.K M H w x → g ds x = some (z, es) → (∀ v zs, DAll (Hid M H) zs es → DA (Hid M H) v z → Q v (upd H a (.lst zs))) → r0 (.ref a) [w] H Q) : OOk X e (fMutV g F G) := by
  obtain ⟨t1, p1, q1⟩ := h1
  obtain ⟨t2, p2, q2⟩ := h2
  refine ⟨_, mk t1 t2 p1 p2, fun S M σ H ρ r ρ' R e Q q => ?_⟩
  obtain ⟨rx, ρ1, ex, e⟩ := fbind_some e
  obtain ⟨u, ρ0, eu, e3⟩ := fbind_some e
  obtain ⟨rfl, i0, s0, ds0, er, hs0, hl0⟩ := needL_some eu
  obtain ⟨ra, ρ3, ey, e⟩ := fbind_some e3
  cases ev : view false ρ3 ra with
  | none =>
    rw [ev] at e
    cases e
  | some x =>
    rw [ev] at e
    cases el : lstOf rx ρ3 with
    | none =>
      rw [el] at e
      cases e
    | some t =>
      obtain ⟨i, s, ds⟩ := t
      rw [el] at e
      have e : (g ds x).map (fun z => (RV.dat z.1, ρ3.set i (s.put z.2))) = some (r, ρ') := e
      cases eg : g ds x with
      | none =>
        rw [eg] at e
        cases e
      | some z =>
        rw [eg] at e
        cases e
        obtain ⟨er2, hs, hl⟩ := lstOf_some el
        rw [er] at er2
        cases er2
        subst er
        refine q1 S M σ H ρ _ _ R ex _ fun M1 v H1 R1 s1 k1 => ?_
        obtain ⟨a0, ys0, rfl, c1, c2, c3⟩ := R1.lstAt hs0 hl0 k1
        refine ⟨.inl ⟨rfl, _, .inl (.inl c2)⟩, ?_⟩
        refine q2 S M1 σ H1 _ _ _ R1 ey _ fun M3 w H2 b1 b2 k2 => ?_
        obtain ⟨a, ys, ea, d1, d2, d3⟩ := b1.lstAt hs hl k1
        cases ea
        refine hr M3 H2 _ ys ds w x z.1 z.2 _ d2 d3 (view_ok b1 k2 ev) eg fun v zs hz hv => ?_
        obtain ⟨R4, t4⟩ := b1.storeT hs hl k1 hz
        exact q M3 v _ R4 ((s1.trans b2).trans t4) (DA.same hv t4.vis)
end
def gAppend (ds : List PyData) (x : PyData) : Option (PyData × List PyData) := if ds.length ≤ 4000000 then some (.none, ds ++ [x]) else none
def gExtend (ds : List PyData) (x : PyData) : Option (PyData × List PyData) := match x with
  | .list es => if ds.length + es.length ≤ 4000000 then some (.none, ds ++ es) else none
  | _ => none
def gPopAt (ds : List PyData) (x : PyData) : Option (PyData × List PyData) := match x with
  | .int i => if 0 ≤ i ∧ i < 4000000 then (ds[i.toNat]?).map fun y => (y, ds.eraseIdx i.toNat) else none
  | _ => none
section
variable {e1 e2 : Expr} {F G : FM RV} {e : Expr}
theorem o_append [TC : TabsC] (h1 : OOk X e1 F) (h2 : OOk X e2 G) (mk : ∀ t t2, PE X e1 t → PE X e2 t2 → PE X e (tBM X.K "list" rAppend t (tCons t2 tNil))) : OOk X e (fMut gAppend F G) := by
  refine o_mut h1 h2 mk fun M H a ys ds w x z es Q h d k e q => ?_
  unfold gAppend at e
  split at e
  · rename_i c
    cases e
    exact ⟨a, ys, w, rfl, rfl, h, by rw [d.length]; exact Nat.lt_of_le_of_lt c (by decide), q _ _ (d.app (.cons k .nil)) .non⟩
  · cases e
theorem o_extend [TC : TabsC] (h1 : OOk X e1 F) (h2 : OOk X e2 G) (mk : ∀ t t2, PE X e1 t → PE X e2 t2 → PE X e (tBM X.K "list" rExtend t (tCons t2 tNil))) : OOk X e (fMutV gExtend F G) := by
  refine o_mutV h1 h2 mk fun M H a ys ds w x z es Q h d k e q => ?_
  unfold gExtend at e
  split at e
  · split at e
    · rename_i c
      cases e
      obtain ⟨b, us, rfl, b1, b2⟩ := k
      exact ⟨a, b, ys, us, rfl, rfl, h, b1, by rw [d.length, b2.length]; exact line4 c, q _ _ (d.app b2) .non⟩
    · cases e
  · cases e
theorem DAll.erase {H : Hp} {ys : List V} {ds : List PyData} (h : DAll H ys ds) (k : Nat) : DAll H (ys.eraseIdx k) (ds.eraseIdx k) := by
  rw [List.eraseIdx_eq_take_drop_succ, List.eraseIdx_eq_take_drop_succ]
  exact (DAll.take _ h).app (DAll.drop _ h)
theorem dall_get {H : Hp} {ys : List V} {ds : List PyData} {k : Nat} {x : PyData} (h : DAll H ys ds) (e : ds[k]? = some x) : ∃ v, ys[k]? = some v ∧ DA H v x := by
  have hk : k < ys.length := by
    rw [h.length]
    exact (List.getElem?_eq_some_iff.mp e).1
  obtain ⟨d, e2, e3⟩ := dall_at h (List.getElem?_eq_getElem hk)
  rw [e] at e2
  cases e2
  exact ⟨_, List.getElem?_eq_getElem hk, e3⟩
theorem o_popAt [TC : TabsC] (h1 : OOk X e1 F) (h2 : OOk X e2 G) (mk : ∀ t t2, PE X e1 t → PE X e2 t2 → PE X e (tBM X.K "list" rPopAt t (tCons t2 tNil))) : OOk X e (fMut gPopAt F G) := by
  refine o_mut h1 h2 mk fun M H a ys ds w x z es Q h d k e q => ?_
  unfold gPopAt at e
  split at e
  · rename_i i
    split at e
    · rename_i c
      cases k
      cases e1 : ds[i.toNat]? with
      | none =>
        rw [e1] at e
        cases e
      | some y =>
        rw [e1] at e
        cases e
        obtain ⟨v, b1, b2⟩ := dall_get d e1
        have hk : i.toNat < ys.length := (List.getElem?_eq_some_iff.mp b1).1
        refine ⟨a, ys, i, i.toNat, v, rfl, rfl, h, by omega, by omega, ?_, b1, q v _ (d.erase _) b2⟩
        exact seqIndex_of (by omega) (by omega)
    · cases e
  · cases e
end
theorem dall0 {H : Hp} {xs : List V} {ds : List PyData} (h : DAll H xs ds) (e : xs.length = 0) : xs = [] ∧ ds = [] := by
  cases h with
  | nil => exact ⟨rfl, rfl⟩
  | cons _ _ => cases e
theorem dall1 {H : Hp} {xs : List V} {ds : List PyData} {n : Nat} (h : DAll H xs ds) (e : xs.length = n + 1) : ∃ v vs d dr, xs = v :: vs ∧ ds = d :: dr ∧ DA H v d ∧ DAll H vs dr ∧ vs.length = n := by
  cases h with
  | nil => cases e
  | cons h1 h2 => exact ⟨_, _, _, _, rfl, rfl, h1, h2, Nat.succ.inj e⟩
theorem dall2 {H : Hp} {xs : List V} {ds : List PyData} (h : DAll H xs ds) (e : xs.length = 2) : ∃ v0 v1 d0 d1, xs = [v0, v1] ∧ ds = [d0, d1] ∧ DA H v0 d0 ∧ DA H v1 d1 := by
  obtain ⟨v0, vs, d0, dr, rfl, rfl, h0, h1, e1⟩ := dall1 h e
  obtain ⟨v1, vs, d1, dr, rfl, rfl, h2, h3, e2⟩ := dall1 h1 e1
  obtain ⟨rfl, rfl⟩ := dall0 h3 e2
  exact ⟨_, _, _, _, rfl, rfl, h0, h2⟩
theorem da_tup' {H : Hp} {v : V} {ds : List PyData} (h : DA H v (.tuple ds)) : ∃ a u xs, v = .ref a ∧ H a = some u ∧ TupO u xs ∧ DAll H xs ds := by
  cases h with
  | tup ha ht hl => exact ⟨_, _, _, rfl, ha, ht, hl⟩
/-! ### what a loop walks -/
def itemsD : PyData → Option (List PyData)
  | .list ds => some ds
  | .tuple ds => some ds
  | .str z => some (z.cps.toList.map fun c => .str ⟨#[c]⟩)
  | _ => none
def fIter (F : FM RV) : FM (List IV) := fbind F fun r => match r with
  | .cst ds => fpure (ds.map .dat)
  | r => fbind (toDat r) fun x => fun ρ => (itemsD x).map fun ds => (ds.map .dat, ρ)
theorem pi_or {X : Cx} {tg e : Expr} {w1 w2 : TI} (h1 : PI X tg e w1) (h2 : PI X tg e w2) : PI X tg e (fun σ H R => w1 σ H R ∨ w2 σ H R) := by
  refine ⟨fun pins s σ H R I h => ?_⟩
  rcases h with h | h
  · exact h1.run pins s σ H R I h
  · exact h2.run pins s σ H R I h
theorem walks_seq {K : PySem.W.Frag} {M : List Addr} {H : Hp} {ys : List V} {ds : List PyData} {J : It} (hg : ∀ i M1 H1, Vis M H M1 H1 → DAll (Hid M1 H1) ys ds ∧ (ys.length = i → J.stop i H1) ∧ ∀ v, ys[i]? = some v → J.go i H1 ∧ ∀ u H2, J.yld i H1 u H2 → H2 = H1 ∧ u = v) : Walks K J M H (ds.map IV.dat) := by
  intro i M1 H1 vis
  obtain ⟨hd, hs, hgo⟩ := hg i M1 H1 vis
  refine ⟨fun e => hs (by rw [hd.length, e, List.length_map]), fun d e => ?_⟩
  rw [List.getElem?_map] at e
  cases e1 : ds[i]? with
  | none =>
    rw [e1] at e
    cases e
  | some x =>
    rw [e1] at e
    cases e
    obtain ⟨v, b1, b2⟩ := dall_get hd e1
    obtain ⟨go, yd⟩ := hgo v b1
    refine ⟨go, fun u H2 hy => ?_⟩
    obtain ⟨rfl, rfl⟩ := yd u H2 hy
    exact ⟨L2.Same.refl _, b2⟩
theorem walks_list {K : PySem.W.Frag} {M : List Addr} {H : Hp} {a : Addr} {ds : List PyData} (h : DA (Hid M H) (.ref a) (.list ds)) : (∃ xs, SqL K H a xs) ∧ Walks K (Itl K a) M H (ds.map IV.dat) := by
  cases h with
  | lst ha hd =>
    refine ⟨⟨_, .inl (.inl (hid_at ha).1)⟩, walks_seq fun i M1 H1 vis => ⟨hd.same vis, ?_⟩⟩
    have h1 : SqL K H1 a _ := .inl (.inl (hid_at (vis _ _ ha)).1)
    exact ⟨fun e => ⟨_, h1, by omega⟩, fun v e => ⟨⟨_, v, h1, e⟩, fun u H2 hy => ⟨hy.1, Option.some.inj ((hy.2 _ h1).symm.trans e)⟩⟩⟩
theorem walks_tup {K : PySem.W.Frag} {M : List Addr} {H : Hp} {a : Addr} {ds : List PyData} {ys : List V} (h : ∀ M1 H1, Vis M H M1 H1 → SqT K H1 a ys ∧ DAll (Hid M1 H1) ys ds) : (∃ xs, SqT K H a xs) ∧ Walks K (Itt K a) M H (ds.map IV.dat) := by
  refine ⟨⟨_, (h M H Vis.refl).1⟩, walks_seq fun i M1 H1 vis => ⟨(h M1 H1 vis).2, ?_⟩⟩
  have h1 := (h M1 H1 vis).1
  exact ⟨fun e => ⟨_, h1, by omega⟩, fun v e => ⟨⟨_, v, h1, e⟩, fun u H2 hy => ⟨hy.1, Option.some.inj ((hy.2 _ h1).symm.trans e)⟩⟩⟩
theorem walks_str {K : PySem.W.Frag} {M : List Addr} {H : Hp} {z : Str} : Walks K (Its z) M H ((z.cps.toList.map fun c => PyData.str ⟨#[c]⟩).map IV.dat) := by
  intro i M1 H1 vis
  refine ⟨fun e => ?_, fun d e => ?_⟩
  · rw [List.length_map, List.length_map, Array.length_toList] at e
    show z.cps.size ≤ i
    omega
  · rw [List.getElem?_map, List.getElem?_map, Array.getElem?_toList] at e
    cases e1 : z.cps[i]? with
    | none =>
      rw [e1] at e
      cases e
    | some c =>
      rw [e1] at e
      cases e
      have hi : i < z.cps.size := (Array.getElem?_eq_some_iff.mp e1).1
      refine ⟨hi, fun u H2 hy => ?_⟩
      obtain ⟨rfl, c2, h2, rfl⟩ := hy
      rw [e1] at h2
      cases h2
      exact ⟨L2.Same.refl _, .str _⟩
section
variable {tg e e1 e2 : Expr} {F G : FM RV} {A : FM (List RV)} {p pos tpos : Pos}
theorem i_val [TC : TabsC] (h : OOk X e F) : IOk X tg e (fIter F) := by
  obtain ⟨t, p, q⟩ := h
  refine ⟨_, pi_or (pi_list p) (pi_or (pi_tup p) (pi_str p)), fun S M σ H ρ ds ρ' R e R0 q0 => ?_⟩
  obtain ⟨r, ρ1, ex, e⟩ := fbind_some e
  have gen : ∀ (r : RV), F ρ = some (r, ρ1) → (fbind (toDat r) fun x => fun ρ => (itemsD x).map fun ds => (ds.map IV.dat, ρ)) ρ1 = some (ds, ρ') → iList X.K t σ H R0 ∨ iTup X.K t σ H R0 ∨ iStr t σ H R0 := fun r ex e => by
    obtain ⟨x, ρ2, ey, e⟩ := fbind_some e
    cases x with
    | list es =>
      cases e
      refine .inl (q S M σ H ρ _ _ R ex _ fun M1 v H1 R1 s1 k1 => ?_)
      obtain ⟨M2, b1, b2, b3⟩ := toDat_ok R s1 R1 k1 ey
      obtain ⟨a, rfl⟩ : ∃ a, v = .ref a := by cases b3; exact ⟨_, rfl⟩
      obtain ⟨w1, w2⟩ := walks_list (K := X.K) b3
      exact ⟨a, rfl, w1, q0 M2 H1 _ b1 b2 w2⟩
    | tuple es =>
      cases e
      refine .inr (.inl (q S M σ H ρ _ _ R ex _ fun M1 v H1 R1 s1 k1 => ?_))
      obtain ⟨M2, b1, b2, b3⟩ := toDat_ok R s1 R1 k1 ey
      obtain ⟨a, u, xs, rfl, ha, ht, hd⟩ : ∃ a u xs, v = .ref a ∧ Hid M2 H1 a = some u ∧ TupO u xs ∧ DAll (Hid M2 H1) xs es := by
        cases b3 with
        | tup h1 h2 h3 => exact ⟨_, _, _, rfl, h1, h2, h3⟩
      obtain ⟨w1, w2⟩ := walks_tup (K := X.K) (M := M2) (H := H1) (a := a) (ds := es) (ys := xs) fun M3 H3 vis => ⟨ht.sq (hid_at (vis _ _ ha)).1, hd.same vis⟩
      exact ⟨a, rfl, w1, q0 M2 H1 _ b1 b2 w2⟩
    | str z =>
      cases e
      refine .inr (.inr (q S M σ H ρ _ _ R ex _ fun M1 v H1 R1 s1 k1 => ?_))
      obtain ⟨M2, b1, b2, b3⟩ := toDat_ok R s1 R1 k1 ey
      cases b3
      exact ⟨z, rfl, q0 M2 H1 _ b1 b2 walks_str⟩
    | _ => cases e
  cases r with
  | cst es =>
    cases e
    refine .inr (.inl (q S M σ H ρ _ _ R ex _ fun M1 v H1 R1 s1 k1 => ?_))
    obtain ⟨a, ys, rfl, c1, c2⟩ := k1
    obtain ⟨w1, w2⟩ := walks_tup (K := X.K) (M := M1) (H := H1) (a := a) (ds := es) (ys := ys) fun M3 H3 vis => ⟨c1 H3, c2 _⟩
    exact ⟨a, rfl, w1, q0 M1 H1 _ R1 s1 w2⟩
  | dat x => exact gen _ ex e
  | slot i => exact gen _ ex e
  | new es => exact gen _ ex e
/-! ranges -/
def rangeIV (lo : Int) (n : Nat) : List IV := (List.range n).map fun (k : Nat) => IV.dat (.int (lo + k))
theorem walks_rng {K : PySem.W.Frag} {M : List Addr} {H : Hp} {lo : Int} {n : Nat} : Walks K (Itr lo n) M H (rangeIV lo n) := by
  intro i M1 H1 vis
  unfold rangeIV
  refine ⟨fun e => ?_, fun d e => ?_⟩
  · rw [List.length_map, List.length_range] at e
    show n ≤ i
    omega
  · rw [List.getElem?_map] at e
    by_cases c : i < n
    · rw [List.getElem?_range c] at e
      cases e
      refine ⟨c, fun u H2 hy => ?_⟩
      obtain ⟨rfl, rfl⟩ := hy
      exact ⟨L2.Same.refl _, .int _⟩
    · rw [List.getElem?_eq_none (by rw [List.length_range]; omega)] at e
      cases e
def rangeD : List PyData → Option (List IV)
  | [.int j] => if -1000000000 ≤ j ∧ j ≤ 1000000000 then some (rangeIV 0 j.toNat) else none
  | [.int i, .int j] => if (-1000000000 ≤ j ∧ j ≤ 1000000000) ∧ -1000000000 ≤ i ∧ i ≤ 1000000000 then some (rangeIV i (j - i).toNat) else none
  | _ => none
def fRange (A : FM (List RV)) : FM (List IV) := fbind A fun rs => fun ρ => (views false ρ rs).bind fun ds => (rangeD ds).map fun is => (is, ρ)
theorem range_view {ρ ρ' : List SV} {rs : List RV} {ds : List IV} (h : ((views false ρ rs).bind fun es => (rangeD es).map fun is => (is, ρ)) = some (ds, ρ')) : ρ' = ρ ∧ ∃ es, views false ρ rs = some es ∧ rangeD es = some ds := by
  cases ev : views false ρ rs with
  | none =>
    rw [ev] at h
    cases h
  | some es =>
    rw [ev] at h
    have h : (rangeD es).map (fun is => (is, ρ)) = some (ds, ρ') := h
    cases er : rangeD es with
    | none =>
      rw [er] at h
      cases h
    | some is =>
      rw [er] at h
      cases h
      exact ⟨rfl, es, rfl, er⟩
theorem i_range1 [TC : TabsC] (hg : Gl X "range") (hm : X.mg "range" = none) (ha : AOk X [e1] A) (hs : starEach [e1] X.env = [(false, eval e1 X.env)] := by rfl) : IOk X tg (.Call (.Name "range" p) [e1] [] pos) (fbind A fun rs => if rs.length = 1 then fRange (fpure rs) else fun _ => none) := by
  obtain ⟨t, pt, q⟩ := ha
  refine ⟨_, pi_range1 hg hm pt hs, fun S M σ H ρ ds ρ' R e R0 q0 => ?_⟩
  obtain ⟨rs, ρ1, ex, e⟩ := fbind_some e
  split at e
  rotate_left
  · cases e
  rename_i hl
  obtain ⟨rfl, es, ev, er⟩ := range_view (show ((views false ρ1 rs).bind fun es => (rangeD es).map fun is => (is, ρ1)) = some (ds, ρ') from e)
  refine q S M σ H ρ _ _ R ex _ fun M1 vs H1 R1 s1 k1 => ?_
  have w := views_ok R1 k1 ev
  unfold rangeD at er
  split at er
  · split at er
    · rename_i c
      cases er
      obtain ⟨v, rfl, h1⟩ := vws1 w
      cases vw_int h1
      exact ⟨_, rfl, by omega, by omega, q0 M1 H1 _ R1 s1 walks_rng⟩
    · cases er
  · exfalso
    obtain ⟨v, w2, rfl, _, _⟩ := vws2 w
    cases rs with
    | nil => cases hl
    | cons r rs =>
      cases rs with
      | nil => cases k1 with
        | cons _ t => cases t
      | cons _ _ => cases hl
  · cases er
/-! zip, enumerate -/
def pairs : List PyData → List PyData → List IV
  | x :: xs, y :: ys => .tup [x, y] :: pairs xs ys
  | _, _ => []
theorem pairs_get : ∀ {xs ys : List PyData} {i : Nat} {d : IV}, (pairs xs ys)[i]? = some d → ∃ x y, xs[i]? = some x ∧ ys[i]? = some y ∧ d = .tup [x, y]
  | [], _, i, d, e => by simp [pairs] at e
  | _ :: _, [], i, d, e => by simp [pairs] at e
  | x :: xs, y :: ys, 0, d, e => by
    cases e
    exact ⟨x, y, rfl, rfl, rfl⟩
  | x :: xs, y :: ys, i + 1, d, e => pairs_get (xs := xs) (ys := ys) (i := i) e
theorem pairs_len : ∀ (xs ys : List PyData), (pairs xs ys).length = min xs.length ys.length
  | [], _ => by simp [pairs]
  | _ :: _, [] => by simp [pairs]
  | x :: xs, y :: ys => by
    show (pairs xs ys).length + 1 = _
    rw [pairs_len xs ys, List.length_cons, List.length_cons]
    omega
theorem iv_pair {K : PySem.W.Frag} {M : List Addr} {H : Hp} {T : Addr} {v w : V} {x y : PyData} (n : H T = none) (h1 : DA (Hid M H) v x) (h2 : DA (Hid M H) w y) : IVOk K M (upd H T (.tup [v, w])) (.ref T) (.tup [x, y]) :=
  ⟨T, [v, w], rfl, .inl (.inl upd_same), .cons (h1.same (hid_new n)) (.cons (h2.same (hid_new n)) .nil)⟩
def zipD : List PyData → Option (List IV)
  | [.list xs, .list ys] => some (pairs xs ys)
  | [.tuple xs, .tuple ys] => some (pairs xs ys)
  | [.tuple xs, .str z] => some (pairs xs (z.cps.toList.map fun c => .str ⟨#[c]⟩))
  | _ => none
/-- zip of data -/
def fZip (A : FM (List RV)) : FM (List IV) := fbind A fun rs => fun ρ => (dats rs).bind fun ds => (zipD ds).map fun is => (is, ρ)
theorem i_zip [TC : TabsC] {elts : List Expr} {kk : Nat} (hg : Gl X "zip") (hm : X.mg "zip" = none) (ha : AOk X [e1, e2] A)
    (hs : starEach [e1, e2] X.env = (false, eval e1 X.env) :: starEach [e2] X.env := by rfl) (hpl : (backTo pos (starEach [e2] X.env)).any (·.1) = false := by rfl) : IOk X (.Tuple elts kk tpos) (.Call (.Name "zip" p) [e1, e2] [] pos) (fZip A) := by
  obtain ⟨t, pt, q⟩ := ha
  refine ⟨_, pi_or (RZ.pi_zipA hg hm pt hs hpl) (pi_zipS hg hm pt hs hpl), fun S M σ H ρ ds ρ' R e R0 q0 => ?_⟩
  obtain ⟨rs, ρ1, ex, e⟩ := fbind_some e
  cases ev : dats rs with
  | none =>
    rw [ev] at e
    cases e
  | some es =>
    rw [ev] at e
    have e : (zipD es).map (fun is => (is, ρ1)) = some (ds, ρ') := e
    cases ez : zipD es with
    | none =>
      rw [ez] at e
      cases e
    | some is =>
      rw [ez] at e
      cases e
      unfold zipD at ez
      split at ez
      · rename_i xs ys
        cases ez
        refine .inl (q S M σ H ρ _ _ R ex _ fun M1 vs H1 R1 s1 k1 => ?_)
        have w := dats_ok k1 ev
        obtain ⟨v0, v1, d0, d1, rfl, z, h0, h1⟩ := dall2 w (by rw [w.length]; rfl)
        cases z
        cases h0 with
        | lst ha hd =>
          cases h1 with
          | lst hb he =>
            refine ⟨_, _, _, _, rfl, .inl ⟨.inl (.inl (hid_at ha).1), .inl (.inl (hid_at hb).1), q0 M1 H1 _ R1 s1 fun i M2 H2 vis => ?_⟩⟩
            have sa : SqL X.K H2 _ _ := .inl (.inl (hid_at (vis _ _ ha)).1)
            have sb : SqL X.K H2 _ _ := .inl (.inl (hid_at (vis _ _ hb)).1)
            refine ⟨fun e => ⟨_, _, sa, sb, ?_⟩, fun d e => ?_⟩
            · rw [pairs_len] at e
              rw [hd.length, he.length]
              omega
            · obtain ⟨x, y, b1, b2, rfl⟩ := pairs_get e
              obtain ⟨u1, c1, c2⟩ := dall_get (hd.same vis) b1
              obtain ⟨u2, c3, c4⟩ := dall_get (he.same vis) b2
              refine ⟨⟨_, _, u1, u2, sa, sb, c1, c3⟩, fun v H3 hy => ?_⟩
              obtain ⟨T, x1, y1, rfl, hT, rfl, f1, f2⟩ := hy
              have z1 := (f1 _ sa).symm.trans c1
              have z2 := (f2 _ sb).symm.trans c3
              cases z1
              cases z2
              exact ⟨same_upd hT, iv_pair hT c2 c4⟩
      · rename_i xs ys
        cases ez
        refine .inl (q S M σ H ρ _ _ R ex _ fun M1 vs H1 R1 s1 k1 => ?_)
        have w := dats_ok k1 ev
        obtain ⟨v0, v1, d0, d1, rfl, z, h0, h1⟩ := dall2 w (by rw [w.length]; rfl)
        cases z
        obtain ⟨a, ua, us, rfl, ha, ta, hd⟩ := da_tup' h0
        obtain ⟨b, ub, ws, rfl, hb, tb, he⟩ := da_tup' h1
        refine ⟨_, _, us, ws, rfl, .inr ⟨ta.sq (hid_at ha).1, tb.sq (hid_at hb).1, q0 M1 H1 _ R1 s1 fun i M2 H2 vis => ?_⟩⟩
        have sa : SqT X.K H2 a us := ta.sq (hid_at (vis _ _ ha)).1
        have sb : SqT X.K H2 b ws := tb.sq (hid_at (vis _ _ hb)).1
        refine ⟨fun e => ⟨_, _, sa, sb, ?_⟩, fun d e => ?_⟩
        · rw [pairs_len] at e
          rw [hd.length, he.length]
          omega
        · obtain ⟨x, y, b1, b2, rfl⟩ := pairs_get e
          obtain ⟨u1, c1, c2⟩ := dall_get (hd.same vis) b1
          obtain ⟨u2, c3, c4⟩ := dall_get (he.same vis) b2
          refine ⟨⟨_, _, u1, u2, sa, sb, c1, c3⟩, fun v H3 hy => ?_⟩
          obtain ⟨T, x1, y1, rfl, hT, rfl, f1, f2⟩ := hy
          have z1 := (f1 _ sa).symm.trans c1
          have z2 := (f2 _ sb).symm.trans c3
          cases z1
          cases z2
          exact ⟨same_upd hT, iv_pair hT c2 c4⟩
      · rename_i xs z0
        cases ez
        refine .inr (q S M σ H ρ _ _ R ex _ fun M1 vs H1 R1 s1 k1 => ?_)
        have w := dats_ok k1 ev
        obtain ⟨v0, v1, d0, d1, rfl, z, h0, h1⟩ := dall2 w (by rw [w.length]; rfl)
        cases z
        obtain ⟨a, ua, us, rfl, ha, ta, hd⟩ := da_tup' h0
        cases h1
        refine ⟨_, us, z0, rfl, ta.sq (hid_at ha).1, q0 M1 H1 _ R1 s1 fun i M2 H2 vis => ?_⟩
        have sa : SqT X.K H2 a us := ta.sq (hid_at (vis _ _ ha)).1
        refine ⟨fun e => ⟨us, sa, ?_⟩, fun d e => ?_⟩
        · rw [pairs_len, List.length_map, Array.length_toList (xs := z0.cps)] at e
          have := hd.length
          omega
        · obtain ⟨x, y, b1, b2, rfl⟩ := pairs_get e
          obtain ⟨u1, c1, c2⟩ := dall_get (hd.same vis) b1
          rw [List.getElem?_map, Array.getElem?_toList] at b2
          cases ec : z0.cps[i]? with
          | none =>
            rw [ec] at b2
            cases b2
          | some c =>
            rw [ec] at b2
            cases b2
            refine ⟨⟨us, u1, c, sa, c1, ec⟩, fun v H3 hy => ?_⟩
            obtain ⟨T, x1, c9, rfl, hT, rfl, f1, f2⟩ := hy
            have z1 := (f1 _ sa).symm.trans c1
            rw [ec] at f2
            cases z1
            cases f2
            exact ⟨same_upd hT, iv_pair hT c2 (.str _)⟩
      · cases ez
def enumIV : Nat → List PyData → List IV
  | _, [] => []
  | n, x :: xs => .tup [.int (n : Nat), x] :: enumIV (n + 1) xs
theorem enum_get : ∀ {xs : List PyData} {n i : Nat} {d : IV}, (enumIV n xs)[i]? = some d → ∃ x, xs[i]? = some x ∧ d = .tup [.int ((n + i : Nat) : Int), x]
  | [], n, i, d, e => by simp [enumIV] at e
  | x :: xs, n, 0, d, e => by
    cases e
    exact ⟨x, rfl, rfl⟩
  | x :: xs, n, i + 1, d, e => by
    obtain ⟨y, h1, h2⟩ := enum_get (xs := xs) (n := n + 1) (i := i) e
    exact ⟨y, h1, by rw [h2, show n + 1 + i = n + (i + 1) by omega]⟩
theorem enum_len : ∀ (xs : List PyData) (n : Nat), (enumIV n xs).length = xs.length
  | [], _ => rfl
  | x :: xs, n => congrArg (· + 1) (enum_len xs (n + 1))
def enumD : List PyData → Option (List IV)
  | [.list xs] => some (enumIV 0 xs)
  | [.tuple xs] => some (enumIV 0 xs)
  | _ => none
def fEnum (A : FM (List RV)) : FM (List IV) := fbind A fun rs => fun ρ => (dats rs).bind fun ds => (enumD ds).map fun is => (is, ρ)
theorem i_enum [TC : TabsC] {elts : List Expr} {kk : Nat} (hg : Gl X "enumerate") (hm : X.mg "enumerate" = none) (ha : AOk X [e1] A) (hs : starEach [e1] X.env = [(false, eval e1 X.env)] := by rfl) : IOk X (.Tuple elts kk tpos) (.Call (.Name "enumerate" p) [e1] [] pos) (fEnum A) := by
  obtain ⟨t, pt, q⟩ := ha
  refine ⟨_, pi_or (pi_enum hg hm pt hs) (pi_enumT hg hm pt hs), fun S M σ H ρ ds ρ' R e R0 q0 => ?_⟩
  obtain ⟨rs, ρ1, ex, e⟩ := fbind_some e
  cases ev : dats rs with
  | none =>
    rw [ev] at e
    cases e
  | some es =>
    rw [ev] at e
    have e : (enumD es).map (fun is => (is, ρ1)) = some (ds, ρ') := e
    cases ez : enumD es with
    | none =>
      rw [ez] at e
      cases e
    | some is =>
      rw [ez] at e
      cases e
      unfold enumD at ez
      split at ez
      · rename_i xs
        cases ez
        refine .inl (q S M σ H ρ _ _ R ex _ fun M1 vs H1 R1 s1 k1 => ?_)
        have w := dats_ok k1 ev
        obtain ⟨v0, vs, d0, dr, rfl, z, h0, h1, h2⟩ := dall1 (n := 0) w (by rw [w.length]; rfl)
        cases z
        cases h1
        cases h0 with
        | lst ha hd =>
          refine ⟨_, _, rfl, .inl (.inl (hid_at ha).1), q0 M1 H1 _ R1 s1 fun i M2 H2 vis => ?_⟩
          have sa : SqL X.K H2 _ _ := .inl (.inl (hid_at (vis _ _ ha)).1)
          refine ⟨fun e => ⟨_, sa, ?_⟩, fun d e => ?_⟩
          · rw [enum_len] at e
            rw [hd.length]
            omega
          · obtain ⟨x, b1, rfl⟩ := enum_get e
            obtain ⟨u1, c1, c2⟩ := dall_get (hd.same vis) b1
            refine ⟨⟨_, u1, sa, c1⟩, fun v H3 hy => ?_⟩
            obtain ⟨T, x1, rfl, hT, rfl, f1⟩ := hy
            have z1 := (f1 _ sa).symm.trans c1
            cases z1
            rw [Nat.zero_add]
            exact ⟨same_upd hT, iv_pair hT (.int _) c2⟩
      · rename_i xs
        cases ez
        refine .inr (q S M σ H ρ _ _ R ex _ fun M1 vs H1 R1 s1 k1 => ?_)
        have w := dats_ok k1 ev
        obtain ⟨v0, vs, d0, dr, rfl, z, h0, h1, h2⟩ := dall1 (n := 0) w (by rw [w.length]; rfl)
        cases z
        cases h1
        obtain ⟨a, ua, us, rfl, ha, ta, hd⟩ := da_tup' h0
        refine ⟨_, us, rfl, ta.sq (hid_at ha).1, q0 M1 H1 _ R1 s1 fun i M2 H2 vis => ?_⟩
        have sa : SqT X.K H2 a us := ta.sq (hid_at (vis _ _ ha)).1
        refine ⟨fun e => ⟨_, sa, ?_⟩, fun d e => ?_⟩
        · rw [enum_len] at e
          rw [hd.length]
          omega
        · obtain ⟨x, b1, rfl⟩ := enum_get e
          obtain ⟨u1, c1, c2⟩ := dall_get (hd.same vis) b1
          refine ⟨⟨_, u1, sa, c1⟩, fun v H3 hy => ?_⟩
          obtain ⟨T, x1, rfl, hT, rfl, f1⟩ := hy
          have z1 := (f1 _ sa).symm.trans c1
          cases z1
          rw [Nat.zero_add]
          exact ⟨same_upd hT, iv_pair hT (.int _) c2⟩
      · cases ez
/-! ### several names at once; x += e -/
section
variable {st : Stmt} {i j : Nat}
theorem noLst_some {ρ : List SV} (h : noLst i ρ = true) : ∃ s, ρ[i]? = some s ∧ s.lst = none := by
  unfold noLst at h
  split at h
  · rename_i s e
    exact ⟨s, e, Option.isNone_iff_eq_none.mp h⟩
  · cases h
def fPar2 (i j : Nat) (F G : FM RV) : FB := fun ρ => match F ρ with
  | some (r, ρ1) => match G ρ1 with
    | some (s, ρ2) => if (noLst i ρ2 && noLst j ρ2 && decide (i ≠ j) && !isSlot r && !isSlot s) = true then ((putRV i r ρ2).bind (putRV j s)).map .nx else none
    | none => none
  | none => none
theorem s_par [TC : TabsC] (h1 : OOk X e1 F) (h2 : OOk X e2 G) (mk : ∀ t1 t2, PE X e1 t1 → PE X e2 t2 → PS X st (tPar i j (tCons t1 (tCons t2 tNil)))) : SOk X st (fPar2 i j F G) := by
  obtain ⟨t1, p1, q1⟩ := h1
  obtain ⟨t2, p2, q2⟩ := h2
  refine ⟨_, mk t1 t2 p1 p2, fun S M σ H ρ o R e D q0 => ?_⟩
  unfold fPar2 at e
  split at e
  rotate_left
  · cases e
  rename_i r ρ1 ex
  split at e
  rotate_left
  · cases e
  rename_i s ρ2 ey
  split at e
  rotate_left
  · cases e
  rename_i hc
  simp only [Bool.and_eq_true, Bool.not_eq_true', decide_eq_true_eq] at hc
  obtain ⟨⟨⟨⟨n1, n2⟩, nij⟩, ns1⟩, ns2⟩ := hc
  cases e2 : putRV i r ρ2 with
  | none =>
    rw [e2] at e
    cases e
  | some ρ3 =>
    rw [e2] at e
    have e : (putRV j s ρ3).map Out.nx = some o := e
    cases e3 : putRV j s ρ3 with
    | none =>
      rw [e3] at e
      cases e
    | some ρ4 =>
      rw [e3] at e
      cases e
      refine q1 S M σ H ρ _ _ R ex _ fun M1 va H1 R1 t1 k1 => ?_
      refine q2 S M1 σ H1 ρ1 _ _ R1 ey _ fun M2 vb H2 R2 t2 k2 => ?_
      refine ⟨va, vb, rfl, ?_⟩
      have ka := k1.keep t2
      -- the two values stand apart
      have apart : ∀ a ds es, r = .new ds → s = .new es → va = .ref a → vb ≠ .ref a := fun a ds es er es' ea eb => by
        subst er es' ea eb
        obtain ⟨b, ys, z1, _, b2, _⟩ := k1
        obtain ⟨c, zs, z2, _, _, _, c4, _⟩ := k2
        cases z1
        cases z2
        exact noT_none' c4 b2 rfl
      -- the first store
      have first : ∃ x, ρ3 = ρ2.set i x ∧ Rel S M2 (σ.set i (some va)) H2 ρ3 ∧ ∀ (a : Addr) (es : List PyData), s = .new es → vb = .ref a → x.lst ≠ none → va ≠ .ref a := by
        unfold putRV at e2
        split at e2
        · cases e2
        · cases e2
        · rename_i u np hu
          have np : ∀ ds, u ≠ .par ds := fun ds z => np ds z
          cases r with
          | dat x =>
            cases e2
            exact ⟨_, rfl, R2.put hu np ka, fun _ _ _ _ l => absurd rfl l⟩
          | new ds =>
            cases e2
            obtain ⟨a, ys, rfl, b1, b2, b3, b4, b5⟩ := ka
            exact ⟨_, rfl, R2.take hu np b1 b2 b3 (R.freshN b4) b5, fun c es z1 z2 _ z3 => apart a ds es rfl z1 rfl (by rw [z2, ← z3])⟩
          | slot k => cases ns1
          | cst ds => cases e2
      obtain ⟨x, rfl, R3, ap⟩ := first
      have kb : RVOk X.K H M2 (σ.set i (some va)) H2 (ρ2.set i x) vb s := by
        cases s with
        | dat y => exact k2
        | new es =>
          obtain ⟨a, ys, rfl, b1, b2, b3, b4, b5⟩ := k2
          refine ⟨a, ys, rfl, b1, b2, b3, t1.fr a b4, fun k u hk l g => ?_⟩
          rcases set_get hk with ⟨rfl, rfl⟩ | ⟨nk, hk2⟩
          · have hi : k < σ.length := by
              rw [R2.len]
              obtain ⟨w, hw, _⟩ := noLst_some n1
              exact (List.getElem?_eq_some_iff.mp hw).1
            rw [get_set_self hi] at g
            exact ap a es rfl rfl l (Option.some.inj (Option.some.inj g))
          · rw [List.getElem?_set_ne (Ne.symm nk)] at g
            exact b5 k u hk2 l g
        | slot k => cases ns2
        | cst es => exact k2
      obtain ⟨M4, c1, c2⟩ := putRV_ok R R3 kb e3
      exact q0 M4 _ H2 c1 (L2.Same.trans t1.vis (L2.Same.trans t2.vis c2))
end
end
end
end Cb

end

section
set_option maxRecDepth 100000
set_option maxHeartbeats 4000000
set_option autoImplicit false
/-! Pf, part L: target = e, calls by keywords, new lists given away, starred items, tuples repeated, displays of dicts. -/
namespace Cb
open PySem PySem.Spec PyProof.Rows L2
section
variable {X : Cx} {e e1 e2 tg : Expr} {es : List Expr} {F G F2 : FM RV} {A : FM (List RV)} {st : Stmt} {ts : List Nat} {Gt : FG} {pos p : Pos}
/-! ### target = e -/
def toIV : RV → FM IV
  | .cst ds => fpure (.tup ds)
  | .dat x => fbind (toDat (.dat x)) fun x => fpure (.dat x)
  | .slot i => fbind (toDat (.slot i)) fun x => fpure (.dat x)
  | .new ds => fbind (toDat (.new ds)) fun x => fpure (.dat x)
theorem toIV_ok [TC : TabsC] {K : PySem.W.Frag} {S : Sit} {M M' : List Addr} {σ : L2.St} {H Hs : Hp} {ρ ρ' ρ2 : List SV} {v : V} {r : RV} {d : IV} (R0 : Rel S M' σ Hs ρ') (t : Tr σ M' Hs ρ' M H ρ) (R : Rel S M σ H ρ) (hr : RVOk K Hs M σ H ρ v r) (h : toIV r ρ = some (d, ρ2)) :
    ∃ M2, Rel S M2 σ H ρ2 ∧ Tr σ M' Hs ρ' M2 H ρ2 ∧ IVOk K M2 H v d := by
  have go : ∀ r, RVOk K Hs M σ H ρ v r → (fbind (toDat r) fun x => fpure (IV.dat x)) ρ = some (d, ρ2) → ∃ M2, Rel S M2 σ H ρ2 ∧ Tr σ M' Hs ρ' M2 H ρ2 ∧ IVOk K M2 H v d := fun r hr h => by
    obtain ⟨x, ρ3, h1, h2⟩ := fbind_some h
    cases h2
    exact toDat_ok R0 t R hr h1
  cases r with
  | cst ds =>
    cases h
    obtain ⟨a, ys, rfl, h1, h2⟩ := hr
    exact ⟨M, R, t, a, ys, rfl, h1 H, h2 _⟩
  | dat x => exact go _ hr h
  | slot i => exact go _ hr h
  | new ds => exact go _ hr h
def fAsg (G : FG) (F : FM RV) : FB := fun ρ => match fbind F toIV ρ with
  | some (d, ρ1) => (G d ρ1).map .nx
  | none => none
theorem s_asg [TC : TabsC] (hg : GOk X tg ts Gt) (h : OOk X e F) (mk : ∀ t g, PE X e t → PG X tg g → PS X st (tAsg t g)) : SOk X st (fAsg Gt F) := by
  obtain ⟨g, pg, qg⟩ := hg
  obtain ⟨t, pt, qt⟩ := h
  refine ⟨_, mk t g pt pg, fun S M σ H ρ o R e D q0 => ?_⟩
  unfold fAsg at e
  split at e
  · rename_i d ρ1 e1
    obtain ⟨r, ρ2, e2, e3⟩ := fbind_some e1
    cases e4 : Gt d ρ1 with
    | none =>
      rw [e4] at e
      cases e
    | some ρ3 =>
      rw [e4] at e
      cases e
      refine qt S M σ H ρ _ _ R e2 _ fun M1 v H1 R1 t1 k1 => ?_
      obtain ⟨M2, R2, t2, k2⟩ := toIV_ok R t1 R1 k1 e3
      exact qg S M2 σ H1 ρ1 ρ3 v d R2 k2 e4 _ fun M3 σ3 H3 R3 t3 _ => q0 M3 σ3 H3 R3 (L2.Same.trans t2.vis t3.vis)
  · cases e
/-! ### calls by keywords -/
def KOk [TC : TabsC] (X : Cx) (kws : List Keyword) (F : FM (List RV)) : Prop := ∃ t, PK X kws t ∧ ∀ (S : Sit) (M : List Addr) (σ : L2.St) (H : Hp) (ρ : List SV) (rs : List RV) (ρ' : List SV), Rel S M σ H ρ → F ρ = some (rs, ρ') →
  ∀ Q : List V → Hp → Prop, (∀ M' vs H', Rel S M' σ H' ρ' → Tr σ M H ρ M' H' ρ' → AllRV X.K H M' σ H' ρ' vs rs → Q vs H') → t σ H Q
theorem k_nil [TC : TabsC] : KOk X [] fNil := by
  refine ⟨_, pk_nil, fun S M σ H ρ r ρ' R e Q q => ?_⟩
  cases e
  exact q M [] H R Tr2.refl .nil
theorem k_cons [TC : TabsC] {nm : Option Str} {kpos : Pos} {kws : List Keyword} (h : OOk X e F) (ha : KOk X kws A) : KOk X (⟨nm, e, kpos⟩ :: kws) (fCons F A) := by
  obtain ⟨t1, p1, q1⟩ := h
  obtain ⟨t2, p2, q2⟩ := ha
  refine ⟨_, pk_cons p1 p2, fun S M σ H ρ r ρ' R e Q q => ?_⟩
  obtain ⟨x, ρ1, ex, e⟩ := fbind_some e
  obtain ⟨xs, ρ2, ey, e⟩ := fbind_some e
  cases e
  refine q1 S M σ H ρ _ _ R ex _ fun M1 vx1 H1 R1 s1 k1 => ?_
  refine q2 S M1 σ H1 ρ1 _ _ R1 ey _ fun M2 vy1 H2 R2 s2 k2 => ?_
  exact q M2 _ H2 R2 (s1.trans s2) (.cons (k1.keep s2) (k2.back s1.fr))
theorem k_consD [TC : TabsC] {nm : Option Str} {kpos : Pos} {kws : List Keyword} (h : OOk X e F) (ha : KOk X kws A) : KOk X (⟨nm, e, kpos⟩ :: kws) (fCons (fDat F) A) := k_cons (o_dat h) ha
def limA (A : FM (List RV)) (n : Nat) : FM (List RV) := fun ρ => match A ρ with
  | some (a, b) => if a.length = n then some (a, b) else none
  | none => none
theorem limA_some {n : Nat} {ρ ρ' : List SV} {rs : List RV} (h : limA A n ρ = some (rs, ρ')) : A ρ = some (rs, ρ') ∧ rs.length = n := by
  unfold limA at h
  split at h
  · rename_i a b e
    split at h
    · rename_i c
      cases h
      exact ⟨e, c⟩
    · cases h
  · cases h
theorem o_ownK [TC : TabsC] {CX : CXT} {k : Nat} {D : FD} {x : Str} {E : XK} {kws : List Keyword} {ks : List Str} (hD : ∀ as r, D as = some r → as.length = ks.length) (F : GivesK X.prog X.w X.K X.mg X.base CX k x ks (spF D)) (hr : Room k X.A) (hg : Gl X x) (hx : Passes CX X E) (ha : KOk X kws A) (hlen : kws.length = ks.length := by rfl) (hall : (backToKw pos (keywordEach kws X.env)).all (·.1.isSome) = true := by rfl) (hks : (backToKw pos (keywordEach kws X.env)).filterMap (·.1) = ks := by rfl)
    (hdb : (x == ("__debug__" : Str)) = false := by decide) (hpl : ((backTo pos (starEach [] X.env)).any (·.1) || (backToKw pos (keywordEach kws X.env)).any (·.1.isNone)) = false := by rfl) (hw : (backToKw pos (keywordEach kws X.env)).length = ks.length := by rfl) : OOk X (.Call (.Name x p) [] kws pos) (fOwn D A) := by
  obtain ⟨t, pt, qt⟩ := ha
  refine ⟨_, pe_ownK0 F hr hg hx pt hlen hall hks hdb hpl hw, ?_⟩
  refine fun S M σ H ρ r ρ' R e Q q => ?_
  -- the number of arguments
  obtain ⟨rs, ρ1, ex, e2⟩ := fbind_some e
  have hl : rs.length = ks.length := by
    split at e2
    · rename_i as ea
      split at e2
      · rename_i d os ed
        have n1 : ∀ {rs : List RV} {as : List AV}, toArgs ρ1 rs = some as → rs.length = as.length := fun {rs} => by
          induction rs with
          | nil =>
            intro as h
            cases h
            rfl
          | cons r rs ih =>
            intro as h
            unfold toArgs at h
            cases c1 : toArg ρ1 r with
            | none =>
              rw [c1] at h
              cases h
            | some a =>
              rw [c1] at h
              cases c2 : toArgs ρ1 rs with
              | none =>
                rw [c2] at h
                cases h
              | some as2 =>
                rw [c2] at h
                cases h
                exact congrArg (· + 1) (ih c2)
        rw [n1 ea, hD _ _ ed]
      · cases e2
    · cases e2
  have len : ∀ {K : PySem.W.Frag} {Hs : Hp} {M : List Addr} {σ : L2.St} {H : Hp} {ρ : List SV} {vs : List V} {rs : List RV}, AllRV K Hs M σ H ρ vs rs → vs.length = rs.length := fun h => by
    induction h with
    | nil => rfl
    | cons _ _ ih => exact congrArg (· + 1) ih
  have qt2 : ∀ (S : Sit) (M : List Addr) (σ : L2.St) (H : Hp) (ρ : List SV) (rs2 : List RV) (ρ' : List SV), Rel S M σ H ρ → limA A ks.length ρ = some (rs2, ρ') →
      ∀ Q : List V → Hp → Prop, (∀ M' vs H', Rel S M' σ H' ρ' → Tr σ M H ρ M' H' ρ' → AllRV X.K H M' σ H' ρ' vs rs2 → Q vs H') → (fun σ H Q => t σ H fun zs H2 => zs.length = ks.length ∧ Q zs H2) σ H Q := fun S M σ H ρ rs2 ρ' R e Q q => by
    obtain ⟨e, hl2⟩ := limA_some e
    exact qt S M σ H ρ rs2 ρ' R e _ fun M' vs H' R' t' k' => ⟨by rw [len k']; exact hl2, q M' vs H' R' t' k'⟩
  have h2 := own_read (X := X) (D := D) (t := fun _ _ _ => True) (r := fun _ _ _ => True) (E := E) qt2
  refine h2 S M σ H ρ r ρ' R ?_ Q q
  rw [← e]
  have el : limA A ks.length ρ = A ρ := by
    unfold limA
    rw [ex]
    exact if_pos hl
  unfold fOwn
  show fbind _ _ ρ = fbind _ _ ρ
  unfold fbind
  rw [el]
/-! ### a new list given to a def that may change it -/
/-! ### starred items -/
/-! ### dicts displayed -/
theorem o_dnew [TC : TabsC] : OOk X (.Dict [] [] pos) (fC (.dict [])) := by
  refine ⟨_, pe_dnewK, fun S M σ H ρ r ρ' R e Q q => ?_⟩
  cases e
  intro p hp
  have sm := same_upd (o := .dK []) hp
  refine q M _ _ (R.grow sm) (Tr2.grow sm) (?_ : DA _ _ (.dict (zipKD [] [])))
  refine .dk (hid_dK upd_same fun m => ?_) .nil
  obtain ⟨o, e, _⟩ := R.al p m
  rw [hp] at e
  cases e
end
end Cb

end

section
set_option maxRecDepth 100000
set_option maxHeartbeats 4000000
set_option autoImplicit false
/-! Pf, part M: what the printed texts use (genf.py). -/
namespace Cb
open PySem PySem.Spec PyProof.Rows L2
theorem units1 {k : Nat} {A : Around} (r : Room k A) : A.units + 1 < cLine := by
  have := r.un
  omega
theorem unitsR {k : Nat} {A : Around} (r : Room k A) : A.units + (100 + 1) < cLine := unitsN r
theorem runF_len {np n : Nat} {B : FB} {as : List AV} {r : RD × List (List PyData)} (h : runF np n B as = some r) : as.length = np := by
  unfold runF at h
  split at h
  · assumption
  · cases h
section
variable {P : Program} {w : World} {K : PySem.W.Frag} {mg : Str → Option Value} {base : Heap} {k np : Nat} {x : Str} {st : Stmt} {N ps : List Str} {B : FB}
theorem givesKF (T : Stands K mg x st) (S : FnScope N ps (defScope st)) (hn : ps.length = np) (hn2 : np ≤ N.length)
    (hb : ∀ (kV doc pm : Value) (an : Option Addr) (cdv ct : Value) (us ws : List Value), us.length = 0 → ws.length = ps.length → bindArgs (PySem.W.fnOf x x (defArgs st) (defBody st) (defScope st) .none kV doc pm an cdv ct) ⟨us, ps.zip ws⟩ = pure (ps.zip (us ++ ws)))
    (hbody : ∀ (f : Addr) (cdv : Value) (A : Around) (outer : List Env) (s : Shared) (H : Hp) (E : XK), Room k (A.deeper (envOfC x (defScope st) s.heap.objs.size f cdv)) →
      ∀ [TC : TabsC], BOk (cxOf CX0 P w K mg base N x (defScope st) f cdv A outer s H E).nox (defBody st) B) : GivesK P w K mg base CX0 (k + 1) x ps (spF (runF np N.length B)) := by
  refine givesK_fun T S (fun kV doc pm an cdv ct us ws h1 h2 => hb kV doc pm an cdv ct us ws (by omega) h1) (fun vs H Q E h => ?_) fun f cdv A outer s H vs Q E hr h => body_ok (hbody f cdv A outer s H E hr) hn2 h
  obtain ⟨M, as, r, os, _, ha, _, ed, _⟩ := h
  unfold runF at ed
  split at ed
  · rename_i c
    rw [ha.length, c, hn]
  · cases ed
end
end Cb

end

section
set_option maxRecDepth 100000
set_option maxHeartbeats 4000000
set_option autoImplicit false
/-! Pf, part N: comprehensions of dicts, list(range(..)). -/
namespace Cb
open PySem PySem.Spec PyProof.Rows L2
/-! ### list(range(n)) -/
/-! ### {k: v for ..} -/
def putP (acc : List (Key × PyData)) (k : Key) (x : PyData) : List (Key × PyData) :=
  if (acc.any fun p => decide (p.1 = k)) = true then acc.map (fun p => if p.1 = k then (p.1, x) else p) else acc ++ [(k, x)]
def KD (H : Hp) (kvs : List (Key × V)) (acc : List (Key × PyData)) : Prop := Paired (fun kv p => kv.1 = p.1 ∧ DA H kv.2 p.2) kvs acc
theorem KD.same {H H' : Hp} (s : L2.Same H H') : ∀ {kvs : List (Key × V)} {acc : List (Key × PyData)}, KD H kvs acc → KD H' kvs acc
  | _, _, .nil => .nil
  | _, _, .cons ⟨h1, h2⟩ t => .cons ⟨h1, h2.same s⟩ (KD.same s t)
theorem KD.any {H : Hp} {k : Key} : ∀ {kvs : List (Key × V)} {acc : List (Key × PyData)}, KD H kvs acc → (kvs.any fun kv => decide (kv.1 = k)) = (acc.any fun p => decide (p.1 = k))
  | _, _, .nil => rfl
  | _, _, .cons ⟨h1, h2⟩ t => by
    rw [List.any_cons, List.any_cons, KD.any t, h1]
theorem KD.repl {H : Hp} {k : Key} {z : V} {x : PyData} (hz : DA H z x) : ∀ {kvs : List (Key × V)} {acc : List (Key × PyData)}, KD H kvs acc → KD H (kvs.map fun kv => if kv.1 = k then (kv.1, z) else kv) (acc.map fun p => if p.1 = k then (p.1, x) else p)
  | _, _, .nil => .nil
  | _, _, .cons (a := kv) (b := p) ⟨h1, h2⟩ t => by
    refine .cons ?_ (KD.repl hz t)
    dsimp only
    by_cases c : kv.1 = k
    · rw [if_pos c, if_pos (by rw [← h1]; exact c)]
      exact ⟨h1, hz⟩
    · rw [if_neg c, if_neg (by rw [← h1]; exact c)]
      exact ⟨h1, h2⟩
theorem KD.snoc {H : Hp} {k : Key} {z : V} {x : PyData} (hz : DA H z x) : ∀ {kvs : List (Key × V)} {acc : List (Key × PyData)}, KD H kvs acc → KD H (kvs ++ [(k, z)]) (acc ++ [(k, x)])
  | _, _, .nil => .cons ⟨rfl, hz⟩ .nil
  | _, _, .cons h t => .cons h (KD.snoc hz t)
theorem KD.put {H : Hp} {k : Key} {z : V} {x : PyData} {kvs : List (Key × V)} {acc : List (Key × PyData)} (h : KD H kvs acc) (hz : DA H z x) : KD H (putK kvs k z) (putP acc k x) := by
  unfold putK putP
  rw [KD.any h]
  split
  · exact KD.repl hz h
  · exact KD.snoc hz h
theorem KD.len {H : Hp} : ∀ {kvs : List (Key × V)} {acc : List (Key × PyData)}, KD H kvs acc → kvs.length = acc.length
  | _, _, .nil => rfl
  | _, _, .cons _ t => congrArg (· + 1) (KD.len t)
theorem KD.zip {H : Hp} : ∀ {kvs : List (Key × V)} {acc : List (Key × PyData)}, KD H kvs acc → zipKD kvs (acc.map (·.2)) = acc.map fun p => (keyD' p.1, p.2)
  | _, _, .nil => rfl
  | _, _, .cons (a := kv) (b := p) ⟨h1, h2⟩ t => by
    obtain ⟨k, v⟩ := kv
    obtain ⟨k2, x⟩ := p
    cases h1
    exact congrArg ((keyD' k, x) :: ·) (KD.zip t)
theorem KD.dall {H : Hp} : ∀ {kvs : List (Key × V)} {acc : List (Key × PyData)}, KD H kvs acc → DAll H (kvs.map (·.2)) (acc.map (·.2))
  | _, _, .nil => .nil
  | _, _, .cons ⟨_, h2⟩ t => .cons h2 (KD.dall t)
def dictOf (acc : List (Key × PyData)) : PyData := .dict (acc.map fun p => (keyD' p.1, p.2))
/-! ### dict(t), t a tuple of pairs -/
section
variable {X : Cx}
def mergeP (acc : List (Key × PyData)) (more : List (Key × PyData)) : List (Key × PyData) := more.foldl (fun acc p => putP acc p.1 p.2) acc
theorem KD.merge {H : Hp} : ∀ {more : List (Key × V)} {ps : List (Key × PyData)} {kvs : List (Key × V)} {acc : List (Key × PyData)}, KD H more ps → KD H kvs acc → KD H (mergeK kvs more) (mergeP acc ps)
  | _, _, kvs, acc, .nil, h => h
  | _, _, kvs, acc, .cons (a := kv) (b := p) ⟨h1, h2⟩ t, h => by
    obtain ⟨k, v⟩ := kv
    obtain ⟨k2, x⟩ := p
    cases h1
    show KD H (mergeK (putK kvs k v) _) (mergeP (putP acc k x) _)
    exact KD.merge t (KD.put h h2)
end
end Cb

end

section
set_option maxRecDepth 100000
set_option maxHeartbeats 4000000
set_option autoImplicit false
/-! Pf, part O: tuples repeated, turned round. -/
namespace Cb
open PySem PySem.Spec PyProof.Rows L2
theorem tup_mul0 (l : Addr) (items : Array Value) (n : Nat) (dd : Option Addr) (sl : Array (Option Value)) (x : Int) (u : Tok) (c0 : (decide (x < -(2 ^ 63)) || decide (x ≥ 2 ^ 63)) = false) (c1 : (items.isEmpty || x == 1) = false) (c2 : (decide (x ≤ 0) || items.isEmpty) = true) :
    Meets (Builtin.«tuple.__mul__» ⟨[.ref l, .int x u], []⟩) (fun _ R s => s.heap.get? l = some { cls := .type "tuple", dict := dd, data := .seq items n, slots := sl } ∧
      R (.ok (.ret (Value.ref s.heap.objs.size))) { s with heap := s.heap.push { cls := Value.type "tuple", data := Data.seq #[] }, toks := s.toks }) :=
  .of_wp fun prog w A R s h => by
    obtain ⟨hp, g, d, tk, os⟩ := s
    obtain ⟨hl, h⟩ := h
    have f1 := AutoSeq1.idx_int
    wp_walk using wpAny_loadPart' hl
    repeat (first
      | (refine wpAny_ite_false (decide_eq_false (by rw [c0]; exact Bool.false_ne_true)) ?_; wp_walk using wpAny_loadPart' hl)
      | (refine wpAny_ite_false (decide_eq_false (by rw [c1]; exact Bool.false_ne_true)) ?_; wp_walk using wpAny_loadPart' hl)
      | (refine wpAny_ite_true (decide_eq_true c2) ?_; wp_walk using wpAny_loadPart' hl))
    exact ⟨_, rfl, h⟩
theorem tup_mul1 (l : Addr) (items : Array Value) (n : Nat) (dd : Option Addr) (sl : Array (Option Value)) (x : Int) (u : Tok) (c0 : (decide (x < -(2 ^ 63)) || decide (x ≥ 2 ^ 63)) = false) (c1 : (items.isEmpty || x == 1) = true) :
    Meets (Builtin.«tuple.__mul__» ⟨[.ref l, .int x u], []⟩) (fun _ R s => s.heap.get? l = some { cls := .type "tuple", dict := dd, data := .seq items n, slots := sl } ∧
      R (.ok (.ret (Value.ref l))) s) :=
  .of_wp fun prog w A R s h => by
    obtain ⟨hp, g, d, tk, os⟩ := s
    obtain ⟨hl, h⟩ := h
    have f1 := AutoSeq1.idx_int
    wp_walk using wpAny_loadPart' hl
    repeat (first
      | (refine wpAny_ite_false (decide_eq_false (by rw [c0]; exact Bool.false_ne_true)) ?_; wp_walk using wpAny_loadPart' hl)
      | (refine wpAny_ite_true (decide_eq_true c1) ?_; wp_walk using wpAny_loadPart' hl))
    exact ⟨_, rfl, h⟩

def rRepTF (K : PySem.W.Frag) : R2 := fun x y H Q => ∃ l k xs, x = .ref l ∧ y = .int k ∧ SqT K H l xs ∧ xs ≠ [] ∧ 0 ≤ k ∧ k ≤ 1000 ∧ xs.length ≤ 1000 ∧ (k = 1 → Q (.ref l) H) ∧ (k ≠ 1 → ∀ p u, TupO u (List.replicate k.toNat xs).flatten → H p = none → Q (.ref p) (upd H p u))
section
variable {X : Cx}
theorem op_repTF : OpR X (binaryOp .Mult) (rRepTF X.K) := by
  intro pins s σ H x y v u Q I rx ry h
  obtain ⟨l, k, xs, rfl, rfl, hT, hne, h1, h2, hz, q1, q⟩ := h
  cases rx
  obtain ⟨t, rfl⟩ := ry
  obtain ⟨its, r, ⟨⟨cls, dd, data, sl⟩, ho, hc, n, hd⟩, hs⟩ := I.tuple hT
  simp only at hc hd
  subst hc hd
  have hle : its.length = xs.length := r.length.symm
  have hi : its.toArray.isEmpty = false := by
    cases its with
    | nil => exact absurd (List.eq_nil_of_length_eq_zero hle.symm) hne
    | cons a b => rfl
  have c0 : (decide (k < -(2 ^ 63)) || decide (k ≥ 2 ^ 63)) = false := by
    rw [decide_eq_false (by omega), decide_eq_false (by omega)] <;> rfl
  by_cases e1 : k = 1
  · subst e1
    have c1 : (its.toArray.isEmpty || (1 : Int) == 1) = true := by
      rw [hi]
      rfl
    exact wpAny_binaryOp_repeat_ref (T := "tuple") (U := "int") (by decide) ⟨_, ho, rfl⟩ (fun s' => typeIs_int s' 1 t) noFill_tuple_mul F.fills_int_mul F.slot_int_rmul repeat_tuple F.slot_int_index.lookup
      (call_meets F.slot_int_rmul (typeIs_int s 1 t) F.entry_int_rmul (F.args_int_rmul_2 _ _) (int_rmul_tuple 1 t l its.toArray n dd sl)
        ⟨ho, rfl, ⟨_, ho, rfl⟩, call_meets F.slot_tuple_mul ⟨_, ho, rfl⟩ F.entry_tuple_mul (F.args_tuple_mul_2 _ _) (tup_mul1 l its.toArray n dd sl 1 t c0 c1) ⟨ho, .ref l, H, I, rfl, q1 rfl⟩⟩)
  have c1 : (its.toArray.isEmpty || k == 1) = false := by
    rw [hi, Bool.false_or]
    exact beq_eq_false_iff_ne.mpr e1
  have q := q e1
  by_cases e0 : k = 0
  · subst e0
    have c2 : (decide ((0 : Int) ≤ 0) || its.toArray.isEmpty) = true := rfl
    exact wpAny_binaryOp_repeat_ref (T := "tuple") (U := "int") (by decide) ⟨_, ho, rfl⟩ (fun s' => typeIs_int s' 0 t) noFill_tuple_mul F.fills_int_mul F.slot_int_rmul repeat_tuple F.slot_int_index.lookup
      (call_meets F.slot_int_rmul (typeIs_int s 0 t) F.entry_int_rmul (F.args_int_rmul_2 _ _) (int_rmul_tuple 0 t l its.toArray n dd sl)
        ⟨ho, rfl, ⟨_, ho, rfl⟩, call_meets F.slot_tuple_mul ⟨_, ho, rfl⟩ F.entry_tuple_mul (F.args_tuple_mul_2 _ _) (tup_mul0 l its.toArray n dd sl 0 t c0 c1 c2) ⟨ho, laidF (s := s) (xs := []) I .nil (Nat.zero_le _) q⟩⟩)
  have hsz0 : its.toArray.size = xs.length := by rw [List.size_toArray, hle]
  have hm : ((its.toArray.size : Nat) : Int) * k ≤ 1000000 := by
    rw [hsz0]
    have a1 : ((xs.length : Nat) : Int) * k ≤ 1000 * k := Int.mul_le_mul_of_nonneg_right (by omega) (by omega)
    omega
  have bound : ∀ m : Nat, m = xs.length → k.toNat * m ≤ sizeLine := fun m e => by
    rw [sizeLine_eq]
    have a1 : k.toNat * m ≤ 1000 * 1000 := Nat.mul_le_mul (by omega) (by omega)
    omega
  have flen : (List.replicate k.toNat its).flatten.length ≤ sizeLine := by
    rw [PyProof.Rows.lm_len_rep_flat]
    exact bound _ hle
  have c2 : (decide (k ≤ 0) || its.toArray.isEmpty) = false := by
    rw [hi, Bool.or_false]
    exact decide_eq_false (by omega)
  have c4 : Builtin.Tuple.tupleTooMany (((its.toArray.size : Nat) : Int) * k) = false := by
    unfold Builtin.Tuple.tupleTooMany
    rw [sizeLine_eq]
    exact decide_eq_false (by omega)
  refine wpAny_binaryOp_repeat_ref (T := "tuple") (U := "int") (by decide) ⟨_, ho, rfl⟩ (fun s' => typeIs_int s' k t) noFill_tuple_mul F.fills_int_mul F.slot_int_rmul repeat_tuple F.slot_int_index.lookup
    (call_meets F.slot_int_rmul (typeIs_int s k t) F.entry_int_rmul (F.args_int_rmul_2 _ _) (int_rmul_tuple k t l its.toArray n dd sl)
      ⟨ho, rfl, ⟨_, ho, rfl⟩, call_meets F.slot_tuple_mul ⟨_, ho, rfl⟩ F.entry_tuple_mul (F.args_tuple_mul_2 _ _) (tuple_mulW l its.toArray n dd sl k t c0 c1 c2 (by omega) c4 (by rw [size_rep, List.size_toArray]; exact flen)) ⟨ho, ?_⟩⟩)
  rw [size_rep]
  exact laidF (s := s) (xs := (List.replicate k.toNat xs).flatten) I (r.rep k.toNat) (by rw [PyProof.Rows.lm_len_rep_flat]; exact bound _ rfl) q
/-- tuple * int -/
def opMulT : PyData → PyData → Option PyData
  | .tuple xs, .int k => if 0 ≤ k ∧ k ≤ 1000 ∧ xs.length ≤ 1000 ∧ xs.isEmpty = false then some (.tuple (List.replicate k.toNat xs).flatten) else none
  | _, _ => none
theorem opMulT_ok : Op2Ok true X (binaryOp .Mult) opMulT := by
  refine ⟨_, op_repTF, fun M H x y dx dy z h1 h2 e Q q => ?_⟩
  unfold opMulT at e
  split at e
  · rename_i xs k
    split at e
    · rename_i c
      cases e
      cases vw_int h2
      obtain ⟨⟨a, ys, rfl, b1, b2⟩, b3⟩ := h1
      have ne : ys ≠ [] := fun z => by
        subst z
        cases b2
        cases c.2.2.2
      refine ⟨a, k, ys, rfl, rfl, b1, ne, c.1, c.2.1, by rw [b2.length]; exact c.2.2.1, fun e1 => ?_, fun e1 p u hu hp => q _ _ (rok_tup hp hu (b2.rep _))⟩
      subst e1
      have er : (List.replicate (1 : Int).toNat xs).flatten = xs := by simp
      rw [er] at q
      exact q _ H ⟨L2.Same.refl _, b3 rfl⟩
    · cases e
  · cases e
end
/-! ### t[::-1] -/
section
open PySem.W
variable {prog : Program} {w : World} {A : Around} {E : Value → Shared → Prop} {s : Shared}
theorem applied_rev {sl : Addr} {vs : Value} {n : Nat} {Q : Int × Int × Nat → Shared → Prop} (hs : s.heap.IsSliceOf sl .none .none vs) (ps : IsPart vs (some (-1)))
    (h : Q ((n : Int) - 1, -1, n) s) : wpAny (model prog w) A (Builtin.Slice.sliceApplied (.ref sl) (pure (n : Int))) Q E s := by
  obtain ⟨os, hos, hcs, hds⟩ := id hs
  unfold Builtin.Slice.sliceApplied Builtin.Slice.sliceFields
  refine wpAny_bind (wpAny_bind (wpAny_field hos hds (x := .none) rfl (wpAny_bind (wpAny_field hos hds (x := .none) rfl (wpAny_bind (wpAny_field hos hds (x := vs) rfl (wpAny_pure ?_)))))))
  refine wpAny_bind (HT.slicePart_ ps ?_)
  show wpAny _ _ (if ((-1 : Int) == 0) = true then _ else _) _ _ s
  rw [if_neg (by decide)]
  refine wpAny_bind (HT.slicePart_ .none (wpAny_bind (HT.slicePart_ .none (wpAny_bind (wpAny_pure ?_)))))
  show wpAny _ _ (pure ((n : Int) - 1, (-1 : Int), Builtin.Slice.slicePlaces ((n : Int) - 1) (-1) (-1))) _ _ s
  have e : Builtin.Slice.slicePlaces ((n : Int) - 1) (-1) (-1) = n := by
    unfold Builtin.Slice.slicePlaces
    have h1 : ¬ ((-1 : Int) > 0) := by omega
    simp only [h1, if_false, Int.neg_neg, Int.ediv_one]
    split <;> omega
  rw [e]
  exact wpAny_pure h
theorem pick_rev (xs : Array Value) : ((List.range xs.size).filterMap fun (m : Nat) => xs[((xs.size : Int) - 1 + (m : Int) * -1).toNat]?).toArray = xs.toList.reverse.toArray := by
  have h := krv_all xs
  have e : (fun (m : Nat) => xs[((xs.size : Int) - 1 + (m : Int) * -1).toNat]?) = fun m => xs[xs.size - 1 - m]? := by
    funext m
    have : ((xs.size : Int) - 1 + (m : Int) * -1).toNat = xs.size - 1 - m := by omega
    rw [this]
  rw [e]
  have h2 : (List.range xs.size).filterMap (fun m => xs[xs.size - 1 - m]?) = ((List.range xs.size).map fun k => xs.size - 1 - k).filterMap (xs[·]?) := by rw [List.filterMap_map]; rfl
  rw [h2, krv_range, List.filterMap_reverse, h]
theorem getItem_tuple_rev {t sl : Addr} {items : Array Value} {vs : Value} {Q : Value → Shared → Prop} (ht : IsTup s.heap t items) (hs : s.heap.IsSliceOf sl .none .none vs) (ps : IsPart vs (some (-1)))
    (h : Q (.ref s.heap.objs.size) { s with heap := s.heap.push { cls := .type "tuple", data := .seq items.toList.reverse.toArray } })
    (hsz : items.size ≤ sizeLine) : wpAny (model prog w) A (getItem (.ref t) (.ref sl)) Q E s := by
  have htake : sizeOk (.seq items.toList.reverse.toArray) := by
    show items.toList.reverse.toArray.size ≤ sizeLine
    rw [List.size_toArray, List.length_reverse, Array.length_toList]
    exact hsz
  obtain ⟨os, hos, hcs, hds⟩ := id hs
  have hTs : s.TypeIs (.ref sl) "slice" := ⟨os, hos, hcs⟩
  unfold getItem
  try with_reducible refine wpAny_holding ?_
  first | refine wpAny_bind (wpAny_pure ?_) | skip
  refine wpAny_bind (wpAny_sequenceKey ht.typeIs (by decide) ?_)
  refine wpAny_bind (wpAny_callSpecial?_slot (name := Str.ofString "__getitem__") ht.typeIs PyProof.Rows.slot_tuple_getitem
    (wpAny_call_entry PyProof.Rows.slot_tuple_getitem ht.typeIs entry_tuple_getitem ?_ (args_tuple_getitem _ _)))
  show wpAny _ _ (Builtin.Tuple.tupleItemsOf (.ref t) >>= _) _ _ s
  refine wpAny_bind (tupleItemsOf_ ht ?_)
  refine wpAny_bind (wpAny_typeOf hTs ?_)
  rw [if_pos (by decide)]
  refine wpAny_bind (applied_rev hs ps ?_)
  show wpAny _ _ (if (((items.size : Int) - 1) == 0 && (-1 : Int) == 1 && items.size == items.size) = true then _ else _) _ _ s
  have hno : ¬ ((((items.size : Int) - 1) == 0 && (-1 : Int) == 1 && items.size == items.size) = true) := by
    rw [show ((-1 : Int) == 1) = false from rfl, Bool.and_false, Bool.false_and]
    exact Bool.false_ne_true
  rw [if_neg hno, pick_rev]
  first
    | exact wpAny_bind (m := Builtin.Tuple.tupleExact _) (wpAny_newObj_type (wpAny_pure ⟨_, rfl, wpAny_pure h⟩) htake)
    | exact wpAny_bind (m := Builtin.Tuple.tupleExact _) (wpAny_newObj_type (wpAny_bind (wpAny_pure (wpAny_pure ⟨_, rfl, wpAny_pure h⟩))) htake)
    | exact wpAny_bind (wpAny_bind (m := Builtin.Tuple.tupleExact _) (wpAny_newObj_type (wpAny_pure (wpAny_pure ⟨_, rfl, wpAny_pure h⟩)) htake))
    | exact wpAny_bind (wpAny_bind (m := Builtin.Tuple.tupleExact _) (wpAny_newObj_type (wpAny_pure ⟨_, rfl, wpAny_pure h⟩) htake))
end
def tRevT (K : PySem.W.Frag) (te : TE) : TE := fun σ H Q => te σ H fun x H1 => ∃ a xs, x = .ref a ∧ SqT K H1 a xs ∧ ∀ p u, TupO u xs.reverse → H1 p = none → Q (.ref p) (upd H1 p u)
section
variable {X : Cx}
theorem pe_revT {e : Expr} {te : TE} {k : Nat} {p1 p2 p3 pos : Pos} (he : PE X e te) : PE X (.Subscript e (.Slice none none (some (.UnaryOp .USub (.Constant (.int 1) k p1) p2)) p3) pos) (tRevT X.K te) := by
  refine ⟨fun pins s σ H Q I h => ?_⟩
  refine Subscript_ (thn (he.run pins s σ H _ I h) fun v s1 ⟨x, H1, I1, r1, q1⟩ => ?_)
  obtain ⟨a, xs, ex, hx, q⟩ := q1
  subst ex
  cases r1
  have hst : PO X (some (.UnaryOp .USub (.Constant (.int 1) k p1) p2)) (tPart (tUn (rU fun i => .int (-i)) (tC (.int 1)))) := po_some (pe_un un_neg pe_int)
  refine wpAny_Slice (thn (po_none.run pins s1 σ H1 (fun o H2 => o = none ∧ H2 = H1) I1 ⟨rfl, rfl⟩) fun vl s2 ⟨l, H2, I2, pl, el, e2⟩ => ?_)
  subst el e2
  refine thn (po_none.run pins s2 σ H2 (fun o H3 => o = none ∧ H3 = H2) I2 ⟨rfl, rfl⟩) fun vu s3 ⟨u, H3, I3, pu, eu, e3⟩ => ?_
  subst eu e3
  refine thn (hst.run pins s3 σ H3 (fun o H4 => o = some (-1) ∧ H4 = H3) I3 ⟨1, rfl, -1, rfl, rfl, rfl⟩) fun vs s4 ⟨o, H4, I4, ps, eo, e4⟩ => ?_
  subst eo e4
  cases pl
  cases pu
  have I5 : Inv X pins σ H4 { s4 with heap := s4.heap.push { cls := .type "slice", data := .fields #[.none, .none, vs] } } := I4.kept (t' := s4.toks) fun b ob q => Heap.get?_push_of_some _ q
  obtain ⟨its, r, ht, hz⟩ := I5.tuple hx
  have hlen := r.length
  show wpAny (model X.prog X.w) X.A (subscriptTail e (.Slice none none (some (.UnaryOp .USub (.Constant (.int 1) k p1) p2)) p3) (.ref a) (.ref s4.heap.objs.size)) (EP X pins σ Q) X.xe { s4 with heap := s4.heap.push { cls := .type "slice", data := .fields #[.none, .none, vs] } }
  refine tail_any (ops := [.ref a, .ref s4.heap.objs.size]) ht.typeIs (PyProof.Rows.slot_tuple_getitem.lookup) ?_ (by with_unfolding_all rfl)
  refine getItem_tuple_rev ht (Heap.IsSliceOf.new _ .none .none vs) ps ?_ (by rw [List.size_toArray]; omega)
  exact laidF (s := { s4 with heap := s4.heap.push { cls := .type "slice", data := .fields #[.none, .none, vs] } }) (xs := xs.reverse) (its := its.reverse) I5 r.reverse (by rw [List.length_reverse]; exact hz) q
def fRev (F : FM RV) : FM RV := fbind F fun x => fun ρ => (view false ρ x).bind fun d => match d with
  | .tuple ds => some (.dat (.tuple ds.reverse), ρ)
  | _ => none
theorem DAll.reverse {H : Hp} : ∀ {ys : List V} {ds : List PyData}, DAll H ys ds → DAll H ys.reverse ds.reverse
  | _, _, .nil => .nil
  | _, _, .cons h t => by
    rw [List.reverse_cons, List.reverse_cons]
    exact (DAll.reverse t).app (.cons h .nil)
theorem o_rev [TC : TabsC] {e : Expr} {F : FM RV} {k : Nat} {p1 p2 p3 pos : Pos} (h : OOk X e F) : OOk X (.Subscript e (.Slice none none (some (.UnaryOp .USub (.Constant (.int 1) k p1) p2)) p3) pos) (fRev F) := by
  obtain ⟨t, pt, qt⟩ := h
  refine ⟨_, pe_revT pt, fun S M σ H ρ r ρ' R e Q q => ?_⟩
  obtain ⟨x, ρ1, ex, e⟩ := fbind_some e
  cases ev : view false ρ1 x with
  | none =>
    rw [ev] at e
    cases e
  | some d =>
    rw [ev, Option.bind_some] at e
    split at e
    · rename_i ds
      cases e
      refine qt S M σ H ρ _ _ R ex _ fun M1 v H1 R1 t1 k1 => ?_
      obtain ⟨⟨a, ys, rfl, b1, b2⟩, _⟩ := view_ok R1 k1 ev
      refine ⟨a, ys, rfl, b1, fun p u hu hp => ?_⟩
      have sm := same_upd (o := u) hp
      exact q M1 _ _ (R1.grow sm) (t1.trans (Tr2.grow sm)) (.tup (hid_tup upd_same hu) hu (b2.reverse.same (hid_same sm)))
    · cases e
end
end Cb

end

section
set_option maxRecDepth 100000
set_option maxHeartbeats 4000000
set_option autoImplicit false
/-! Pf, part R: texts: join, split, sorted, f'..', int(text). -/
namespace Cb
open PySem PySem.Spec PyProof.Rows L2
section
variable {X : Cx} {e e1 e2 : Expr} {es : List Expr} {F G : FM RV} {pos p apos : Pos} {M : List Addr} {H : Hp}
/-- x.m(y), x a text: g tells what comes back -/
def fM1 (g : Str → PyData → Option PyData) (F G : FM RV) : FM RV := fbind F fun x => fun ρ => match view true ρ x with
  | some (.str a) => (fbind G fun y => fun ρ2 => (view true ρ2 y).bind fun dy => (g a dy).map fun z => (resRV z, ρ2)) ρ
  | _ => none
def toStrs : List PyData → Option (List Str)
  | [] => some []
  | .str x :: ds => (toStrs ds).map fun xs => x :: xs
  | _ => none
theorem strs_dall {ys : List V} {ds : List PyData} {xs : List Str} (h : DAll H ys ds) (e : toStrs ds = some xs) : ys = xs.map V.str := by
  induction ds generalizing ys xs with
  | nil =>
    cases h
    cases e
    rfl
  | cons d ds ih =>
    cases h with
    | cons h1 t =>
      cases d with
      | str x =>
        unfold toStrs at e
        cases e1 : toStrs ds with
        | none =>
          rw [e1] at e
          cases e
        | some zs =>
          rw [e1] at e
          cases e
          cases h1
          rw [ih t e1]
          rfl
      | _ => cases e
theorem dall_strs {H : Hp} : ∀ xs : List Str, DAll H (xs.map V.str) (xs.map PyData.str)
  | [] => .nil
  | x :: xs => .cons (.str x) (dall_strs xs)
/-- int(text) -/
def opIntT : List PyData → Option PyData
  | [.str a] => if a.length ≤ 640 then (PySem.intText? a).map .int else none
  | _ => none
/-! sorted(texts) -/
def insS (x : Str) : List Str → List Str
  | [] => [x]
  | y :: r => if decide (y.cps.toList < x.cps.toList) = true then y :: insS x r else x :: y :: r
def srtS : List Str → List Str
  | [] => []
  | x :: r => insS x (srtS r)
/-- not above -/
def leS (a b : Str) : Prop := ¬ b.cps.toList < a.cps.toList
theorem leS_anti {a b : Str} (h : leS a b) (h2 : leS b a) : a = b := by
  have e : a.cps.toList = b.cps.toList := List.le_antisymm (List.not_lt.mp h) (List.not_lt.mp h2)
  cases a
  cases b
  exact congrArg Str.mk (Array.toList_inj.mp e)
theorem leS_trans {a b c : Str} (h : leS a b) (h2 : leS b c) : leS a c := List.not_lt.mpr (List.le_trans (List.not_lt.mp h) (List.not_lt.mp h2))
theorem ins_perm (x : Str) : ∀ l : List Str, (insS x l).Perm (x :: l)
  | [] => .refl _
  | y :: r => by
    unfold insS
    split
    · exact ((ins_perm x r).cons y).trans (.swap x y r)
    · exact .refl _
theorem srt_perm : ∀ l : List Str, (srtS l).Perm l
  | [] => .refl _
  | x :: r => (ins_perm x (srtS r)).trans ((srt_perm r).cons x)
theorem ins_sorted (x : Str) : ∀ l : List Str, l.Pairwise leS → (insS x l).Pairwise leS
  | [], _ => List.pairwise_singleton _ _
  | y :: r, h => by
    have h1 := List.pairwise_cons.mp h
    unfold insS
    split
    · rename_i c
      have c := of_decide_eq_true c
      refine List.pairwise_cons.mpr ⟨fun z m => ?_, ins_sorted x r h1.2⟩
      rcases List.mem_cons.mp ((ins_perm x r).mem_iff.mp m) with rfl | m
      · exact List.not_lt.mpr (List.le_of_lt c)
      · exact h1.1 z m
    · rename_i c
      have c : leS x y := fun z => c (decide_eq_true z)
      refine List.pairwise_cons.mpr ⟨fun z m => ?_, h⟩
      rcases List.mem_cons.mp m with rfl | m
      · exact c
      · exact leS_trans c (h1.1 z m)
theorem srt_sorted : ∀ l : List Str, (srtS l).Pairwise leS
  | [] => .nil
  | x :: r => ins_sorted x _ (srt_sorted r)
theorem sorted_unique : ∀ {l m : List Str}, l.Pairwise leS → m.Pairwise leS → l.Perm m → l = m
  | [], m, _, _, p => p.nil_eq
  | x :: l, [], _, _, p => absurd p.symm.nil_eq (by simp)
  | x :: l, y :: m, h1, h2, p => by
    have a1 := List.pairwise_cons.mp h1
    have a2 := List.pairwise_cons.mp h2
    have e : x = y := by
      rcases List.mem_cons.mp (p.mem_iff.mp List.mem_cons_self) with e | e
      · exact e
      · rcases List.mem_cons.mp (p.mem_iff.mpr (List.mem_cons_self (a := y) (l := m))) with e2 | e2
        · exact e2.symm
        · exact leS_anti (a1.1 y e2) (a2.1 x e)
    subst e
    rw [sorted_unique a1.2 a2.2 p.cons_inv]
theorem rising_le : ∀ (l : List Str) (x : Str), risingS x l = true → (x :: l).Pairwise leS
  | [], x, _ => List.pairwise_singleton _ _
  | y :: r, x, h => by
    have h := Bool.and_eq_true_iff.mp (show (!ltCps y.cps.toList x.cps.toList && risingS y r) = true from h)
    have h1 : leS x y := by
      have h := h.1
      rw [ltCps_eq] at h
      exact of_decide_eq_false (by simpa using h)
    have h2 := rising_le r y h.2
    have h3 := List.pairwise_cons.mp h2
    refine List.pairwise_cons.mpr ⟨fun z m => ?_, h2⟩
    rcases List.mem_cons.mp m with rfl | m
    · exact h1
    · exact leS_trans h1 (h3.1 z m)
theorem sortedS_le {l : List Str} (h : sortedS l = true) : l.Pairwise leS := by
  cases l with
  | nil => exact .nil
  | cons x r => exact rising_le r x h
def opSorted : List PyData → Option PyData
  | [.list ds] => (toStrs ds).bind fun xs => if xs.length < 64 then some (.list ((srtS xs).map PyData.str)) else none
  | _ => none
theorem opSorted_ok : CallOk false X (.builtin "sorted") opSorted := by
  refine ⟨_, cr_sortedS, fun M H vs ds z h e Q q => ?_⟩
  unfold opSorted at e
  split at e
  · rename_i ds
    cases e1 : toStrs ds with
    | none =>
      rw [e1] at e
      cases e
    | some xs =>
      rw [e1] at e
      dsimp only [Option.bind_some] at e
      split at e
      · rename_i c
        cases e
        obtain ⟨v, rfl, a, us, rfl, a1, a2⟩ := vws1 h
        have := strs_dall a2 e1
        subst this
        refine ⟨a, xs, rfl, .inl (.inl a1), c, fun ys p hp hs np => ?_⟩
        rw [sorted_unique (sortedS_le hs) (srt_sorted xs) (hp.trans (srt_perm xs).symm)]
        exact q _ _ (rok_lst np (dall_strs _))
      · cases e
  · cases e
end
end Cb

end

section
set_option maxRecDepth 100000
set_option maxHeartbeats 4000000
set_option autoImplicit false
/-! sets of texts: one text more; a set made of a list of texts; its texts in order. -/
namespace Cb
open PySem PySem.Spec PyProof.Rows L2 PySem.Froz
section
variable {P : Program} {w : World} {A : Around} {E : Value → Shared → Prop} {s : Shared}
/-- the table rises and can be walked -/
def TabW (w : World) (D : SD) : Prop := Ris D.2.2.place.toList ∧ (w.params.followText "set-order" = true ∨ D.2.2.led = true)
theorem tab_tail {ep : Nat} {es1 : Array (Int × Value)} {t2 : SetTable} {b : Bool} (F : TabW w (es1, ep, t2)) : TabW w (tailTx ep es1 t2 b) := by
  unfold tailTx
  split
  · refine ⟨relayAll_ris _ _ _, ?_⟩
    exact F.2.imp id fun z => (relayAll_led t2 es1 _).trans z
  · exact F
theorem tab_add {D : SD} {h : Int} {v : Value} (F : TabW w D) : TabW w (addTx h v D) := by
  have hr := layNew_ris D.2.2 D.1 h v F.1
  have hl := layNew_led D.2.2 D.1 h v
  unfold addTx
  refine tab_tail ⟨?_, ?_⟩
  · show Ris (if _ then _ else _ : SetTable).place.toList
    split
    · exact hr
    · exact hr
  · refine F.2.imp id fun z => ?_
    show (if _ then _ else _ : SetTable).led = true
    split
    · exact hl.trans z
    · exact hl.trans z
/-- a text that is there -/
theorem addHas_x {a : Addr} {T : String} {D : SD} {l : List Str} {k : Str} {u : Tok} {Q : Bool → Shared → Prop} (ho : s.heap.get? a = some (sObj T D)) (F : TxOk P w D l) (hk : k ∈ l) (hb : l.length < scanBound)
    (h : Q false s) : wpAny (model P w) A (setAddHashed a (.str k u) (hashStr w k)) Q E s := by
  obtain ⟨es, ep, t⟩ := D
  have hd : (sObj T (es, ep, t)).data = .set es ep t := rfl
  have hf : t.fits es.size = true := F.fit
  have hel : ElemsOf (strKind P w) es.toList := F.el
  have hsz : es.size = l.length := F.sz
  have hb0 : es.size < scanBound := by omega
  have hkey : (strKind P w).is k (.str k u) = true := is_str k u
  unfold setAddHashed setAddHashedIn
  refine wpAny_holding (wpAny_bind (wpAny_setState_of ho hd hf ?_))
  dsimp only
  rw [byScan_of rfl hb0 hel]
  simp only [↓reduceIte]
  unfold setAddByScan
  refine wpAny_bind ?_
  refine wpAny_bind (wpAny_rule ?_)
  refine wpAny_bind (wpAny_setScan_of (knd := strKind P w) (k := k) hkey ho hd hf hel ?_)
  cases hfi : List.findIdx? (fun e => (strKind P w).is k e.2) es.toList with
  | some j =>
    dsimp only
    exact wpAny_pure (wpAny_pure h)
  | none =>
    obtain ⟨e, he, q⟩ := (F.mem k).mp hk
    have c := List.findIdx?_eq_none_iff.mp hfi e he
    rw [q] at c
    cases c
/-- the texts met -/
def add1 (l : List Str) (k : Str) : List Str := if k ∈ l then l else k :: l
def metS (val : Nat → Str) : Nat → List Str
  | 0 => []
  | i + 1 => add1 (metS val i) (val i)
theorem metS_len (val : Nat → Str) : ∀ i, (metS val i).length ≤ i
  | 0 => Nat.le_refl _
  | i + 1 => by
    have ih := metS_len val i
    show (add1 (metS val i) (val i)).length ≤ _
    unfold add1
    split
    · omega
    · rw [List.length_cons]
      omega
theorem metS_nd (val : Nat → Str) : ∀ i, (metS val i).Nodup
  | 0 => List.nodup_nil
  | i + 1 => by
    have ih := metS_nd val i
    show (add1 (metS val i) (val i)).Nodup
    unfold add1
    split
    · exact ih
    · rename_i c
      exact List.nodup_cons.mpr ⟨c, ih⟩
theorem metS_mem (val : Nat → Str) : ∀ i k, k ∈ metS val i ↔ ∃ j, j < i ∧ val j = k
  | 0, k => ⟨(fun z => nomatch z), fun ⟨j, h, _⟩ => absurd h (Nat.not_lt_zero j)⟩
  | i + 1, k => by
    have ih := metS_mem val i k
    show k ∈ add1 (metS val i) (val i) ↔ _
    unfold add1
    constructor
    · intro h
      have h2 : k ∈ metS val i ∨ k = val i := by
        split at h
        · exact .inl h
        · exact (List.mem_cons.mp h).symm
      rcases h2 with h | h
      · obtain ⟨j, h1, h2⟩ := ih.mp h
        exact ⟨j, by omega, h2⟩
      · exact ⟨i, by omega, h.symm⟩
    · rintro ⟨j, h1, h2⟩
      by_cases e : j = i
      · subst e h2
        split
        · assumption
        · exact List.mem_cons_self
      · have := ih.mpr ⟨j, by omega, h2⟩
        split
        · exact this
        · exact List.mem_cons_of_mem _ this
/-- the set of the texts l at a -/
def TSet (P : Program) (w : World) (h : Heap) (a : Addr) (l : List Str) : Prop := ∃ D, h.get? a = some (sObj "set" D) ∧ TxOk P w D l ∧ TabW w D
theorem TSet.lt {h : Heap} {a : Addr} {l : List Str} (R : TSet P w h a l) : a < h.objs.size := by
  obtain ⟨D, ho, _⟩ := R
  exact Heap.lt_size ho
end
section
variable {P : Program} {w : World} {A : Around} {R : Result → Shared → Prop} {I : Addr} {fp wr : List Addr} {G : Array GenState → Array GenState → Prop} {n : Nat} {Pv : Nat → Value → Prop} {St : Nat → Shared → Prop}
theorem upd_samebut (h : Heap) (a : Addr) (o : Obj) : ∀ b, b ≠ a → (h.update a (fun _ => o)).get? b = h.get? b := (Heap.SameBut.update h a (fun _ => o)).2
/-- one text more, there or not -/
theorem add_any {s : Shared} {E : Value → Shared → Prop} {a : Addr} {l : List Str} {k : Str} {u : Tok} {Q : Bool → Shared → Prop} (T : TSet P w s.heap a l) (hb : l.length + 1 < scanBound)
    (h : ∀ b h', (∀ c, c ≠ a → h'.get? c = s.heap.get? c) → TSet P w h' a (add1 l k) → Q b { s with heap := h' }) : wpAny (model P w) A (setAddHashed a (.str k u) (hashStr w k)) Q E s := by
  obtain ⟨D, ho, F, W⟩ := T
  by_cases hk : k ∈ l
  · refine addHas_x ho F hk (by omega) (h false s.heap (fun _ _ => rfl) ⟨D, ho, ?_, W⟩)
    unfold add1
    rw [if_pos hk]
    exact F
  · refine add_x ho F hk hb (h true _ (upd_samebut _ _ _) ⟨_, get_upd _ ho rfl, ?_, tab_add W⟩)
    unfold add1
    rw [if_neg hk]
    exact add_ok u F
theorem update_loop (W : WalksS P w A.in1 I fp wr G n Pv St) (S : Addr) (hSf : S ∉ fp) (val : Nat → Str) (hval : ∀ i v, Pv i v → ∃ t, v = .str (val i) t) (hb : n + 1 < scanBound) :
    ∀ (k i : Nat) (s : Shared), n - i = k → i ≤ n → St i s → TSet P w s.heap S (metS val i) →
      (∀ s', Moved (S :: wr) G s s' → TSet P w s'.heap S (metS val n) → R (.ok (.ret .none)) s') →
      codeAny (model P w) A (.builtin "set.update.loop" ⟨[.ref S, .ref I], []⟩) R s := by
  have hSw : S ∉ wr := fun h => hSf (W.sub _ h)
  have hsub : ∀ b ∈ wr, b ∈ S :: wr := fun b hb => List.mem_cons_of_mem _ hb
  have keep : ∀ {s s' : Shared} {l : List Str}, Moved wr G s s' → TSet P w s.heap S l → TSet P w s'.heap S l := fun hm ⟨D, ho, r⟩ => ⟨D, hm.heap S _ hSw ho, r⟩
  intro k
  induction k with
  | zero =>
    intro i s hk hi hst hS hR
    obtain rfl : i = n := by omega
    refine codeAny_builtin PyProof.Rows.F.entry_set_update_loop ?_
    rw [Around.under_plainId PyProof.Rows.F.plain_set_update_loop _]
    show wpAny _ A.in1 (pyNext (.ref I) >>= _) _ _ s
    refine wpAny_bind (W.done s _ _ hst fun s' hm => ?_)
    show wpAny _ A.in1 (ret Value.none) _ _ s'
    exact wpAny_pure (hR s' (hm.mono hsub) (keep hm hS))
  | succ k ih =>
    intro i s hk hi hst hS hR
    have hlt : i < n := by omega
    refine codeAny_builtin PyProof.Rows.F.entry_set_update_loop ?_
    rw [Around.under_plainId PyProof.Rows.F.plain_set_update_loop _]
    show wpAny _ A.in1 (pyNext (.ref I) >>= _) _ _ s
    refine wpAny_bind (W.item i s _ _ hlt hst fun v s' hP hst' hm => ?_)
    obtain ⟨t, rfl⟩ := hval i v hP
    have hS' := keep hm hS
    show wpAny _ A.in1 (holding [Value.str (val i) t] (setAdd S (.str (val i) t)) >>= _) _ _ s'
    refine wpAny_bind (wpAny_holding ?_)
    unfold setAdd
    refine wpAny_holding ?_
    refine wpAny_bind ((strKind P w).pyHash (k := val i) (is_str _ _) ?_)
    have hroom : (metS val i).length + 1 < scanBound := by
      have := metS_len val i
      omega
    refine add_any (s := { s' with toks := s'.toks + 1 }) hS' hroom fun b h' same hT => ?_
    refine wpAny_pure ⟨plainId_quiet PyProof.Rows.F.plain_set_update_loop _, ih (i + 1) _ (by omega) hlt (W.frame _ s' _ _ hst' (Nat.le_succ _) fun b hb o e => ?_) hT fun s'' hm'' hS'' => ?_⟩
    · rw [same b (fun h : b = S => hSf (by rw [← h]; exact hb))]
      exact e
    · refine hR s'' (Moved.trans W.gtrans ((hm.mono hsub).then_heap (Nat.le_succ _) fun b o hb e => ?_) hm'') hS''
      rw [same b (fun h : b = S => hb (by rw [h]; exact List.mem_cons_self))]
      exact e
end
section
variable {P : Program} {w : World} {A : Around} {E : Value → Shared → Prop} {s : Shared}
theorem tset_fresh {h : Heap} {a : Addr} (ho : h.get? a = some (sObj "set" (#[], 0, .fresh 0 0 (!w.params.followText "set-order")))) : TSet P w h a [] := by
  refine ⟨_, ho, TxOk.nil rfl, ?_, ?_⟩
  · exact .nil
  · show _ ∨ (!w.params.followText "set-order") = true
    cases w.params.followText "set-order"
    · exact .inr rfl
    · exact .inl rfl
/-- set(xs), xs a list of texts -/
theorem call_set_texts {l : Addr} {items : Array Value} {xs : List Str} {Q : Value → Shared → Prop} (hh : A.handled = none) (hl : s.heap.IsList l items) (hi : StrsAre items.toList xs) (hb : items.size + 1 < scanBound)
    (h : ∀ (h' : Heap) (tk : Nat), TSet P w h' s.heap.objs.size (metS (fun i => xs.getD i Str.empty) items.size) → (∀ b o, b < s.heap.objs.size → s.heap.get? b = some o → h'.get? b = some o) → Q (.ref s.heap.objs.size) { s with heap := h', toks := tk }) :
    wpAny (model P w) A (call (.type "set") [.ref l]) Q E s := by
  obtain ⟨c, tl, hmro⟩ := PySem.F.called_set.mro
  have hmade := PySem.F.called_set.made
  have hsub := PySem.F.called_set.sub
  refine wpAny_call (codeAny_of_tree ?_)
  show wpAny _ _ (callAny (.type "set") _) _ _ _
  refine wpAny_pure ⟨Code.quiet_builtin _ (by decide +kernel), codeAny_builtin PySem.F.entry_type_call ?_⟩
  rw [Around.under_plain (weight_type_call_type "set" [.ref l] []) rfl]
  have h1 := PySem.F.called_set.notType
  have h2 := PySem.F.called_set.canCreate
  have hct := PySem.F.typeCall_set_1 (.ref l)
  repeat (any_goals (first | assumption | wp_step))
  let o0 : Obj := { cls := .type "set", dict := none, data := .set #[] 0 (.fresh 0 0 (!w.params.followText "set-order")) }
  refine codeAny_mono (code_set_led1 (.ref l) (E := E) (Q₁ := fun obj s₁ => obj = .ref s.heap.objs.size ∧ s₁ = { s with heap := s.heap.push o0 }) ⟨rfl, rfl⟩) fun r s₁ hr => ?_
  cases r with
  | error e => exact hr
  | ok fl =>
    cases fl with
    | ret obj =>
      obtain ⟨rfl, rfl⟩ := hr
      have hS : (s.heap.push o0).get? s.heap.objs.size = some o0 := Heap.get?_push_size _ rfl
      have hT : Shared.TypeIs { s with heap := s.heap.push o0 } (.ref s.heap.objs.size) "set" := ⟨_, hS, rfl⟩
      have hli := PySem.F.called_set.init.lookup
      have hbi := PySem.F.called_set.init.bind (.ref s.heap.objs.size)
      repeat (any_goals (first | assumption | wp_step))
      refine codeAny_mono (codeAny_call_builtin (R := wants (fun r s₂ => r = .none ∧ ∃ h' tk, s₂ = { s with heap := h', toks := tk } ∧ TSet P w h' s.heap.objs.size (metS (fun i => xs.getD i Str.empty) items.size) ∧
          (∀ b o, b < s.heap.objs.size → s.heap.get? b = some o → h'.get? b = some o)) E) PySem.F.called_set.init.plain PySem.F.entry_set_init (check_set_init_1 hT ?_)) fun r₂ s₂ hr₂ => ?_
      · obtain ⟨ol, hol, hcl, nl, hdl⟩ := hl
        obtain ⟨ocls, odict, odata, oslots⟩ := ol
        simp only at hcl hdl
        subst hcl hdl
        have hol' : (s.heap.push o0).get? l = some { cls := .type "list", dict := odict, data := .seq items nl, slots := oslots } := Heap.get?_push_of_some _ hol
        have hsls := PySem.F.sub_list_set
        have hslf := PySem.F.sub_list_frozenset
        have hne : (Value.type "list" == Value.type "dict") = false := by decide
        have hl1 : (s.heap.push o0).IsList l items := ⟨_, hol', rfl, nl, rfl⟩
        unfold Builtin.«set.__init__» noKeywords Builtin.Frozenset.updateFrom
        generalize hPI : pyIter = PI
        wp_walk
        subst hPI
        refine wpAny_pyIter_list hl1 ?_
        refine wpAny_bind (wpAny_runValue ?_)
        have hlS : l < s.heap.objs.size := Heap.lt_size hol
        have hz1 : (s.heap.push o0).objs.size = s.heap.objs.size + 1 := Heap.size_push ..
        have hneI : l ≠ (s.heap.push o0).objs.size := by
          rw [Heap.size_push]
          exact Nat.ne_of_lt (Nat.lt_succ_of_lt hlS)
        have hSf : s.heap.objs.size ∉ [(s.heap.push o0).objs.size, l] := by
          rw [Heap.size_push]
          simp only [List.mem_cons, List.not_mem_nil, or_false, not_or]
          exact ⟨Nat.ne_of_lt (Nat.lt_succ_self _), Nat.ne_of_gt hlS⟩
        have hval : ∀ (i : Nat) (v : Value), items[i]? = some v → ∃ t, v = .str (xs.getD i Str.empty) t := fun i v hv => SS.strs_at hi i v (by rw [Array.getElem?_toList]; exact hv)
        refine update_loop ((Walks.list (by simp [hh]) _ l hneI items).toS) s.heap.objs.size hSf (fun i => xs.getD i Str.empty) hval hb (items.size - 0) 0 _ (by omega) (Nat.zero_le _) ⟨⟨_, Heap.get?_push_size _ rfl, rfl, rfl⟩, hl1.push _⟩ ?hS0 ?hR
        case hS0 => exact tset_fresh (Heap.get?_push_of_some _ hS)
        case hR =>
          intro s' hm hS'
          obtain ⟨h', g', d', tk', os'⟩ := s'
          obtain rfl : g' = s.gens := hm.gens
          obtain rfl : d' = s.drawn := hm.drawn
          obtain rfl : os' = s.os := hm.os
          show wpAny _ _ _ _ _ _
          refine wpAny_pure ?_
          show wpAny _ _ (ret Value.none) _ _ _
          refine wpAny_pure ⟨rfl, h', tk', rfl, hS', fun b o hb e => hm.heap b o ?_ (Heap.get?_push_of_some _ (Heap.get?_push_of_some _ e))⟩
          rw [Heap.size_push]
          simp only [List.mem_cons, List.not_mem_nil, or_false, not_or]
          exact ⟨Nat.ne_of_lt hb, Nat.ne_of_lt (Nat.lt_succ_of_lt hb)⟩
      · cases r₂ with
        | error e => exact hr₂
        | ok fl₂ =>
          cases fl₂ with
          | ret r =>
            obtain ⟨rfl, h', tk, rfl, hS', hk'⟩ := hr₂
            repeat (any_goals (first | assumption | wp_step))
            exact h _ _ hS' hk'
          | _ => exact hr₂.elim
    | _ => exact hr.elim
end
theorem perm_of_sub : ∀ {l m : List Str}, l.Nodup → (∀ k ∈ l, k ∈ m) → m.length ≤ l.length → l.Perm m
  | [], m, _, _, h => by
    cases m with
    | nil => exact .nil
    | cons x m => exact absurd h (by simp)
  | k :: l, m, nd, sub, h => by
    have hk := sub k List.mem_cons_self
    have nk := (List.nodup_cons.mp nd).1
    have hp := List.perm_cons_erase hk
    refine List.Perm.trans ?_ hp.symm
    refine List.Perm.cons k (perm_of_sub (List.nodup_cons.mp nd).2 (fun x hx => ?_) ?_)
    · exact (List.mem_erase_of_ne (fun (e : x = k) => nk (by rw [← e]; exact hx))).mpr (sub x (List.mem_cons_of_mem _ hx))
    · have := hp.length_eq
      rw [List.length_cons] at this h
      omega
def strOf : Value → Str
  | .str x _ => x
  | _ => ""
theorem strs_of : ∀ {vs : List Value}, (∀ v ∈ vs, ∃ k t, v = Value.str k t) → StrsAre vs (vs.map strOf)
  | [], _ => .nil
  | v :: vs, h => by
    obtain ⟨k, t, rfl⟩ := h v List.mem_cons_self
    exact .cons k t (strs_of fun v m => h v (List.mem_cons_of_mem _ m))
section
variable {P : Program} {w : World} {A : Around} {E : Value → Shared → Prop} {s : Shared}
theorem el_str {es : List (Int × Value)} (h : ElemsOf (strKind P w) es) : ∀ e ∈ es, ∃ k t, e.2 = Value.str k t := fun e m => by
  obtain ⟨⟨k, hk, _⟩, _⟩ := h e m
  obtain ⟨t, q⟩ := Value.isStrOf_shape (show Value.isStrOf k e.2 = true from hk)
  exact ⟨k, t, q⟩
theorem sorted_tset {a : Addr} {l : List Str} {Q : Value → Shared → Prop} (T : TSet P w s.heap a l) (nd : l.Nodup) (hh : A.handled = none) (h64 : l.length < 64)
    (hQ : ∀ s' p (out : Array Value) (c : Nat) (ys : List Str), (∀ b o, s.heap.get? b = some o → s'.heap.get? b = some o) → s'.gens = s.gens → s'.os = s.os → s.heap.objs.size ≤ p →
      s'.heap.get? p = some (seqObj "list" out c) → StrsAre out.toList ys → ys.Perm l → sortedS ys = true → Q (.ref p) s') :
    wpAny (model P w) A (call (.builtin "sorted") [.ref a]) Q E s := by
  obtain ⟨⟨es, ep, t⟩, ho, F, hr, hl⟩ := T
  have hsz : es.size = l.length := F.sz
  refine Calls.call_function_entry kind_sorted plain_sorted entry_sorted (args_sorted1 _) ?_
  unfold Builtin.«sorted»
  refine wpAny_bind (m := checkCount "sorted" 1 1 _) (wpAny_pure ?_)
  refine wpAny_bind (collect_set (A := A.in1) hh ⟨_, ho, rfl, rfl⟩ F.fit (by rw [hsz]; exact Nat.lt_of_lt_of_le h64 (by decide)) hr hl fun s1 vs k1 hz g1 o1 pm => ?_)
  have hvl : vs.length = l.length := by rw [pm.length_eq, List.length_map, Array.length_toList]; exact hsz
  have hst : ∀ v ∈ vs, ∃ k t, v = Value.str k t := fun v hv => by
    obtain ⟨e, he, q⟩ := List.mem_map.mp (pm.mem_iff.mp hv)
    rw [← q]
    exact el_str F.el e he
  have hS := strs_of hst
  have pk : (vs.map strOf).Perm l := by
    refine (perm_of_sub nd (fun k hk => ?_) ?_).symm
    · obtain ⟨e, he, q⟩ := (F.mem k).mp hk
      have q : Value.isStrOf k e.2 = true := q
      refine List.mem_map.mpr ⟨e.2, pm.mem_iff.mpr (List.mem_map_of_mem he), ?_⟩
      obtain ⟨x, t, ex⟩ := el_str F.el e he
      rw [ex] at q ⊢
      have : x = k := by simpa [Value.isStrOf] using q
      exact this
    · rw [List.length_map, hvl]
      exact Nat.le_refl _
  refine wpAny_bind (wpAny_newList ?_ (by rw [hvl, sizeLine_eq]; omega))
  have hoL : (s1.heap.push (seqObj "list" vs.toArray 0)).get? s1.heap.objs.size = some (seqObj "list" vs.toArray 0) := Heap.get?_push_size _ rfl
  refine wpAny_bind (wpAny_holding (wpAny_call_entry slot_list_sort ⟨_, hoL, rfl⟩ entry_list_sort (list_sort_treeK strKind_oneLt hoL hS.keysOf (fun v₁ v₂ rest e => keyKind_strs (by rw [← e]; exact hS)) (by rw [hvl]; exact h64) fun st' hp hs => ?_) (args_list_sort _)))
  obtain ⟨ys, c1, c2, c3⟩ := sorted_out_str hS hp hs
  obtain ⟨c, hc⟩ := sortedHeap_at (vs := vs) (out := (arrOf st').map (·.2)) hoL
  refine ⟨_, rfl, wpAny_pure ⟨_, rfl, hQ _ s1.heap.objs.size _ c ys (fun b u e => ?_) g1 o1 hz hc c1 (c2.trans pk) c3⟩⟩
  have q := k1 b u e
  have hlt := Heap.lt_size q
  rw [sortedHeap_old (Nat.ne_of_lt hlt) (by rw [size_push']; exact Nat.lt_succ_of_lt hlt)]
  exact Heap.get?_push_of_some _ q
end
theorem TSet.at {P : Program} {w : World} {h h' : Heap} {a : Addr} {l : List Str} (R : TSet P w h a l) (k : ∀ o, h.get? a = some o → h'.get? a = some o) : TSet P w h' a l := by
  obtain ⟨D, ho, r⟩ := R
  exact ⟨D, k _ ho, r⟩
def SetTx (P : Program) (w : World) (a : Addr) (l : List Str) : HO := .ext fun h => TSet P w h a l
theorem setTx_new {P : Program} {w : World} {H : Hp} {h : Heap} {a : Addr} {l : List Str} (R : TSet P w h a l) : ObjOk P w H h a (SetTx P w a l) := by
  have ⟨D, ho, _⟩ := R
  exact ⟨R, ⟨_, ho⟩, fun h1 h2 p k => TSet.at p k⟩
section
variable {X : Cx}
def rSetTx (K : PySem.W.Frag) (P : Program) (w : World) : List V → Hp → VK → Prop := fun vs H Q => ∃ (l : Addr) (xs : List Str), vs = [V.ref l] ∧ SqL K H l (xs.map V.str) ∧ xs.length < 64 ∧ ∀ (a : Addr) (ls : List Str), H a = none → ls.Nodup → (∀ k, k ∈ ls ↔ k ∈ xs) → Q (.ref a) (upd H a (SetTx P w a ls))
theorem cr_setTx (hc : X.calm = true) : CallR X (.type "set") (rSetTx X.K X.prog X.w) := by
  intro pins s σ H vs us Q I r h
  obtain ⟨l, xs, rfl, hl, h64, q⟩ := h
  rw [Vals.ref1 r]
  obtain ⟨its, rv, pl, hz⟩ := I.list hl
  have hlen := rv.length
  rw [List.length_map] at hlen
  have hn : H s.heap.objs.size = none := I.hok.fresh (Nat.le_refl _)
  have hsz : its.toArray.size = xs.length := by rw [List.size_toArray]; exact hlen.symm
  refine call_set_texts (P := X.prog) (w := X.w) (items := its.toArray) (xs := xs) (I.ok.hd hc) pl.isList (by simpa using rv.strs) (by rw [hsz]; exact Nat.lt_of_lt_of_le (Nat.succ_lt_succ h64) (by decide)) fun h' tk T k => ?_
  refine ⟨.ref s.heap.objs.size, upd H s.heap.objs.size (SetTx X.prog X.w s.heap.objs.size _), I.laid (t' := tk) (fun b o e => k b o (Heap.lt_size e) e) (Nat.le_refl _) (setTx_new T), rfl, q _ _ hn (metS_nd _ _) fun k => ?_⟩
  rw [metS_mem, hsz]
  constructor
  · rintro ⟨j, hj, rfl⟩
    rw [List.getD_eq_getElem?_getD, List.getElem?_eq_getElem hj]
    exact List.getElem_mem hj
  · intro hk
    obtain ⟨j, hj, e⟩ := List.getElem_of_mem hk
    exact ⟨j, hj, by rw [List.getD_eq_getElem?_getD, List.getElem?_eq_getElem hj]; exact e⟩
def rSortedTx (P : Program) (w : World) : List V → Hp → VK → Prop := fun vs H Q => ∃ (a : Addr) (l : List Str), vs = [V.ref a] ∧ H a = some (SetTx P w a l) ∧ l.Nodup ∧ l.length < 64 ∧
  ∀ (ys : List Str) (p : Addr), ys.Perm l → sortedS ys = true → H p = none → Q (.ref p) (upd H p (.lst (ys.map V.str)))
theorem cr_sortedTx (hc : X.calm = true) : CallR X (.builtin "sorted") (rSortedTx X.prog X.w) := by
  intro pins s σ H vs us Q I r h
  obtain ⟨a, l, rfl, ha, nd, h64, q⟩ := h
  rw [Vals.ref1 r]
  have T : TSet X.prog X.w s.heap a l := (I.hok a _ ha).1
  refine sorted_tset T nd (I.ok.hd hc) h64 fun s' p out c ys k g o hp hg c1 c2 c3 => ?_
  have hlen : (ys.map V.str).length ≤ sizeLine := by rw [List.length_map, c2.length_eq, sizeLine_eq]; omega
  have hn : H p = none := I.hok.fresh hp
  have J : Inv X pins σ (upd H p (.lst (ys.map V.str))) { s with heap := s'.heap, gens := s'.gens, drawn := s'.drawn, toks := s'.toks } :=
    I.call (ch := []) (Un.laid k hp hn) (I.hok.laid k hp ⟨hlen, out.toList, c, vals_of_strs c1, hg⟩) (by rw [g]; exact I.bare) (fun _ z => nomatch z)
  have e : s' = { s with heap := s'.heap, gens := s'.gens, drawn := s'.drawn, toks := s'.toks } := by
    cases s'
    cases s
    cases o
    rfl
  rw [e]
  exact ⟨.ref p, _, J, rfl, q ys p c2 c3 hn⟩
end
end Cb

end

section
set_option maxRecDepth 100000
set_option maxHeartbeats 4000000
set_option autoImplicit false
/-! Pf, part Y: sorted(set(texts)). -/
namespace Cb
open PySem PySem.Spec PyProof.Rows L2
def ddS : List Str → List Str
  | [] => []
  | x :: r => if x ∈ r then ddS r else x :: ddS r
theorem dd_mem : ∀ {l : List Str} {k : Str}, k ∈ ddS l ↔ k ∈ l
  | [], k => Iff.rfl
  | x :: r, k => by
    have ih := dd_mem (l := r) (k := k)
    unfold ddS
    split
    · rename_i c
      rw [ih, List.mem_cons]
      exact ⟨.inr, fun h => h.elim (fun e => e ▸ c) id⟩
    · rw [List.mem_cons, List.mem_cons, ih]
theorem dd_nd : ∀ l : List Str, (ddS l).Nodup
  | [] => List.nodup_nil
  | x :: r => by
    unfold ddS
    split
    · exact dd_nd r
    · rename_i c
      exact List.nodup_cons.mpr ⟨fun h => c (dd_mem.mp h), dd_nd r⟩
theorem dd_len : ∀ l : List Str, (ddS l).length ≤ l.length
  | [] => Nat.le_refl _
  | x :: r => by
    have ih := dd_len r
    unfold ddS
    split
    · exact Nat.le_succ_of_le ih
    · exact Nat.succ_le_succ ih
theorem nd_perm {l m : List Str} (h1 : l.Nodup) (h2 : m.Nodup) (h : ∀ k, k ∈ l ↔ k ∈ m) : l.Perm m := by
  have a : ∀ {l m : List Str}, l.Nodup → (∀ k, k ∈ l → k ∈ m) → l.length ≤ m.length := fun {l} => by
    induction l with
    | nil => exact fun _ _ => Nat.zero_le _
    | cons x l ih =>
      intro m nd sub
      have hx := sub x List.mem_cons_self
      have nx := (List.nodup_cons.mp nd).1
      have hp := (List.perm_cons_erase hx).length_eq
      have := ih (m := m.erase x) (List.nodup_cons.mp nd).2 fun k hk => (List.mem_erase_of_ne (fun (e : k = x) => nx (by rw [← e]; exact hk))).mpr (sub k (List.mem_cons_of_mem _ hk))
      rw [List.length_cons] at hp ⊢
      omega
  exact perm_of_sub h1 (fun k hk => (h k).mp hk) (a h2 fun k hk => (h k).mpr hk)
def opSortSet : List PyData → Option PyData
  | [.list ds] => (toStrs ds).bind fun xs => if xs.length < 64 then some (.list ((srtS (ddS xs)).map PyData.str)) else none
  | _ => none
section
variable {X : Cx}
/-- set(..), then sorted(..) of it -/
def rSortSet (K : PySem.W.Frag) (P : Program) (w : World) : List V → Hp → VK → Prop := fun vs H Q => rSetTx K P w vs H fun v H1 => rSortedTx P w [v] H1 Q
theorem rSortSet_of {M : List Addr} {H : Hp} {vs : List V} {ds : List PyData} {z : PyData} (h : AllVW false X.K M H vs ds) (e : opSortSet ds = some z) (Q : VK) (q : ∀ v H', ResOk M H v H' z → Q v H') : rSortSet X.K X.prog X.w vs H Q := by
  unfold opSortSet at e
  split at e
  · rename_i ds
    cases e1 : toStrs ds with
    | none =>
      rw [e1] at e
      cases e
    | some xs =>
      rw [e1] at e
      dsimp only [Option.bind_some] at e
      split at e
      · rename_i c
        cases e
        obtain ⟨v, rfl, a, us, rfl, a1, a2⟩ := vws1 h
        have := strs_dall a2 e1
        subst this
        refine ⟨a, xs, rfl, .inl (.inl a1), c, fun s ls ns nd hm => ?_⟩
        have hp : ls.Perm (ddS xs) := nd_perm nd (dd_nd xs) fun k => (hm k).trans dd_mem.symm
        refine ⟨s, ls, rfl, upd_same, nd, by rw [hp.length_eq]; exact Nat.lt_of_le_of_lt (dd_len xs) c, fun ys p hy hs np => ?_⟩
        rw [sorted_unique (sortedS_le hs) (srt_sorted (ddS xs)) ((hy.trans hp).trans (srt_perm (ddS xs)).symm)]
        have np0 : H p = none := by
          by_cases z : p = s
          · rw [z]
            exact ns
          · rwa [upd_ne z] at np
        have sm : L2.Same H (upd (upd H s (SetTx X.prog X.w s ls)) p (.lst ((srtS (ddS xs)).map V.str))) := (same_upd ns).trans (same_upd np)
        exact q _ _ ⟨p, _, rfl, np0, sm, upd_same, dall_strs _⟩
      · cases e
  · cases e
theorem o_sortSet [TC : TabsC] {e : Expr} {A : FM (List RV)} {p1 p2 pos pos2 : Pos} (hc : X.calm = true) (hg1 : Gl X "sorted") (hm1 : X.mg "sorted" = none) (hg2 : Gl X "set") (hm2 : X.mg "set" = none) (ha : AOk X [e] A)
    (he : starEach [e] X.env = (false, eval e X.env) :: starEach [] X.env := by rfl) (hpl : (backTo pos2 (starEach [] X.env)).any (·.1) = false := by rfl)
    (he2 : starEach [Expr.Call (.Name "set" p2) [e] [] pos2] X.env = (false, eval (.Call (.Name "set" p2) [e] [] pos2) X.env) :: starEach [] X.env := by rfl) (hpl2 : (backTo pos (starEach [] X.env)).any (·.1) = false := by rfl) :
    OOk X (.Call (.Name "sorted" p1) [.Call (.Name "set" p2) [e] [] pos2] [] pos) (fCall false opSortSet A) :=
  call_read ha (fun M H vs ds z h e Q q => rSortSet_of h e Q q) fun t pt => by
    have z := pe_callB (X := X) (x := "sorted") (p := p1) (id := "sorted") (cr_sortedTx hc) hg1 hm1 (by decide +kernel) (pa_cons (pe_callTy (x := "set") (p := p2) (T := "set") (cr_setTx hc) hg2 hm2 (by decide +kernel) pt (by decide) (by decide) he hpl) pa_nil) (by decide) (by decide) he2 hpl2
    exact z
end
end Cb

end

section
set_option maxRecDepth 100000
set_option maxHeartbeats 4000000
set_option autoImplicit false
/-! Pf, part S: [e for a in xs for b in ys]. -/
namespace Cb
open PySem PySem.Spec PyProof.Rows L2
def compF2 (G : FG) (T : FM Bool) (I1 : FM (List IV)) (G1 : FG) (T1 : FM Bool) (E : FM RV) (vs vs1 : List Nat) : List IV → List PyData → List SV → Option (List PyData × List SV)
  | [], acc, ρ => some (acc, ρ)
  | d :: ds, acc, ρ => match G d ρ with
    | none => none
    | some ρ1 => match T ρ1 with
      | some (true, ρ2) => match I1 ρ2 with
        | some (is, ρ3) => if freeOf ρ3 vs1 = true then (match compF G1 T1 E vs1 is acc (wipeR ρ3 vs1) with
          | some (acc1, ρ4) => compF2 G T I1 G1 T1 E vs vs1 ds acc1 (wipeR ρ4 vs)
          | none => none) else none
        | none => none
      | some (false, ρ2) => compF2 G T I1 G1 T1 E vs vs1 ds acc (wipeR ρ2 vs)
      | none => none
def fLc2 (I : FM (List IV)) (G : FG) (T : FM Bool) (I1 : FM (List IV)) (G1 : FG) (T1 : FM Bool) (E : FM RV) (vs vs1 : List Nat) : FM RV := fun ρ => match I ρ with
  | some (ds, ρ1) => if freeOf ρ1 vs = true then (match compF2 G T I1 G1 T1 E vs vs1 ds [] (wipeR ρ1 vs) with
    | some (out, ρ2) => if out.length ≤ 4000000 then some (.new out, restR ρ1 (wipeR ρ2 vs) vs) else none
    | none => none) else none
  | none => none
theorem compF_len {G : FG} {T : FM Bool} {E : FM RV} {vs : List Nat} : ∀ (ds : List IV) (acc : List PyData) (ρ : List SV) (out : List PyData) (ρE : List SV), compF G T E vs ds acc ρ = some (out, ρE) → acc.length ≤ out.length
  | [], acc, ρ, out, ρE, e => by
    cases e
    exact Nat.le_refl _
  | d :: ds, acc, ρ, out, ρE, e => by
    unfold compF at e
    split at e
    · cases e
    split at e
    · split at e
      · have := compF_len ds _ _ _ _ e
        rw [List.length_append] at this
        omega
      · cases e
    · exact compF_len ds _ _ _ _ e
    · cases e
theorem compF2_len {G G1 : FG} {T T1 : FM Bool} {I1 : FM (List IV)} {E : FM RV} {vs vs1 : List Nat} : ∀ (ds : List IV) (acc : List PyData) (ρ : List SV) (out : List PyData) (ρE : List SV), compF2 G T I1 G1 T1 E vs vs1 ds acc ρ = some (out, ρE) → acc.length ≤ out.length
  | [], acc, ρ, out, ρE, e => by
    cases e
    exact Nat.le_refl _
  | d :: ds, acc, ρ, out, ρE, e => by
    unfold compF2 at e
    split at e
    · cases e
    split at e
    · split at e
      · split at e
        · split at e
          · rename_i e1
            exact Nat.le_trans (compF_len _ _ _ _ _ e1) (compF2_len ds _ _ _ _ e)
          · cases e
        · cases e
      · cases e
    · exact compF2_len ds _ _ _ _ e
    · cases e
theorem lc2_read [TC : TabsC] {K : PySem.W.Frag} {wi wi1 : TI} {g g1 : TG} {tt tt1 : TT} {te : TE} {vs vs1 ts ts1 : List Nat} {I I1 : FM (List IV)} {G G1 : FG} {T T1 : FM Bool} {E : FM RV}
    (qi : ∀ (S : Sit) (M : List Addr) (σ : L2.St) (H : Hp) (ρ : List SV) (ds : List IV) (ρ' : List SV), Rel S M σ H ρ → I ρ = some (ds, ρ') → ∀ R : It → Hp → Prop, (∀ M' H' J, Rel S M' σ H' ρ' → Tr σ M H ρ M' H' ρ' → Walks K J M' H' ds → R J H') → wi σ H R)
    (qg : RdG K ts G g) (qt : RdT T tt)
    (qi1 : ∀ (S : Sit) (M : List Addr) (σ : L2.St) (H : Hp) (ρ : List SV) (ds : List IV) (ρ' : List SV), Rel S M σ H ρ → I1 ρ = some (ds, ρ') → ∀ R : It → Hp → Prop, (∀ M' H' J, Rel S M' σ H' ρ' → Tr σ M H ρ M' H' ρ' → Walks K J M' H' ds → R J H') → wi1 σ H R)
    (qg1 : RdG K ts1 G1 g1) (qt1 : RdT T1 tt1) (qe : RdO K E te) (hts : ∀ t ∈ ts, t ∈ vs) (hts1 : ∀ t ∈ ts1, t ∈ vs1) (hvv : ∀ t ∈ vs1, t ∈ vs) : RdO K (fLc2 I G T I1 G1 T1 E vs vs1) (tLc2 wi g tt wi1 g1 tt1 te vs vs1) := by
  intro S M σ H ρ r ρ' R e Q q
  unfold fLc2 at e
  split at e
  rotate_left
  · cases e
  rename_i ds ρ1 e1
  split at e
  rotate_left
  · cases e
  rename_i hf
  split at e
  rotate_left
  · cases e
  rename_i out ρE ec
  split at e
  rotate_left
  · cases e
  rename_i hn
  cases e
  refine qi S M σ H ρ _ _ R e1 _ fun M1 H1 J R1 t1 wk => ?_
  intro D hD
  have hD0 : noT H D = none := t1.fr D (noT_none hD)
  have hS0 : S.H0 D = none := R.freshN hD0
  have wl : (wipe σ vs).length = σ.length := wipe_length σ vs
  have wo : ∀ i, i ∉ vs → (wipe σ vs)[i]? = σ[i]? := fun i n => wipe_out n
  have sD := same_upd (o := .lst []) hD
  have R2 : Rel S (D :: M1) (wipe σ vs) (upd H1 D (.lst [])) (wipeR ρ1 vs) := (R1.newl sD hD upd_same).wiped hf wo wl
  have t2 : Tr2 σ M H ρ (wipe σ vs) (D :: M1) (upd H1 D (.lst [])) (wipeR ρ1 vs) := (t1.trans (Tr2.newl sD hD)).trans (Tr2.wiped wo)
  refine ⟨fun i m H' => m = ds.length - i ∧ ∃ M' ρ' acc accV, Rel S M' (wipe σ vs) H' ρ' ∧ Tr2 σ M H ρ (wipe σ vs) M' H' ρ' ∧ Vis M1 H1 M' H' ∧ D ∈ M' ∧ H' D = some (.lst accV) ∧ DAll (Hid M' H') accV acc ∧ NS (wipe σ vs) ρ' D ∧ i ≤ ds.length ∧ compF2 G T I1 G1 T1 E vs vs1 (ds.drop i) acc ρ' = some (out, ρE),
    ⟨ds.length, by simp, D :: M1, wipeR ρ1 vs, [], [], R2, t2, hid_cons sD hD, List.mem_cons_self, upd_same, .nil, NS.wiped (R1.notSlot hD) wo, Nat.zero_le _, ec⟩, ?_⟩
  rintro i m H' ⟨rfl, M', ρ', acc, accV, R', t', v', mD, hDl, hacc, nsD, li, el⟩
  obtain ⟨ws, wg⟩ := wk i M' H' v'
  cases hd : ds.drop i with
  | nil =>
    rw [hd] at el
    cases el
    have hi2 : i = ds.length := by
      have := List.drop_eq_nil_iff.mp hd
      omega
    refine .inl ⟨ws hi2, ?_⟩
    have f' := freeOf_rel R1 R' hf
    have wo2 : ∀ i, i ∉ vs → σ[i]? = (wipe σ vs)[i]? := fun i n => (wipe_out n).symm
    have R3 : Rel S M' σ H' (wipeR ρE vs) := R'.wiped f' wo2 wl.symm
    have R4 : Rel S M' σ H' (restR ρ1 (wipeR ρE vs) vs) := restR_rel (ρ0 := ρ1) R1 (fun _ _ => rfl) v' (fun _ m => m) R3
    refine q M' _ H' R4 ?_ ⟨D, accV, rfl, mD, hDl, hacc, hD0, restR_ns (NS.wiped nsD wo2)⟩
    have t3 := t'.trans (Tr2.wiped (vs := vs) wo2)
    exact ⟨t3.vis, t3.kp, fun a n => restR_ns (t3.sl a n), t3.fr⟩
  | cons d rest =>
    rw [hd] at el
    obtain ⟨hx, hr⟩ := get_drop hd
    obtain ⟨go, yd⟩ := wg d hx
    have hlt : i < ds.length := (List.getElem?_eq_some_iff.mp hx).1
    refine .inr ⟨go, fun H' => ∃ M' ρ' acc accV, Rel S M' (wipe σ vs) H' ρ' ∧ Tr2 σ M H ρ (wipe σ vs) M' H' ρ' ∧ Vis M1 H1 M' H' ∧ D ∈ M' ∧ H' D = some (.lst accV) ∧ DAll (Hid M' H') accV acc ∧ NS (wipe σ vs) ρ' D ∧ compF2 G T I1 G1 T1 E vs vs1 (ds.drop (i + 1)) acc ρ' = some (out, ρE),
      fun H' ⟨M', ρ9, acc, accV, a1, a2, a3, a4, a5, a6, a7, a9⟩ => ⟨ds.length - (i + 1), by omega, rfl, M', ρ9, acc, accV, a1, a2, a3, a4, a5, a6, a7, hlt, a9⟩, fun x H2 hy => ?_⟩
    obtain ⟨sm, iv⟩ := yd x H2 hy
    unfold compF2 at el
    split at el
    · cases el
    rename_i ρ2 e2
    have tg : Tr2 (wipe σ vs) M' H' ρ' (wipe σ vs) M' H2 ρ' := Tr2.grow sm
    refine qg S M' (wipe σ vs) H2 ρ' ρ2 x d (R'.grow sm) iv e2 _ fun M3 σ3 H3 R3 t3 w3 => ?_
    have hw : wipe σ3 vs = wipe σ vs := by
      rw [w3 vs hts]
      exact lc_read.wipe_wipe
    refine ⟨hw, ?_⟩
    have t4 := tg.trans t3
    have hwl : (wipe σ vs).length = σ3.length := by rw [← hw, wipe_length]
    split at el
    · -- the test holds
      rename_i ρ3 e3
      refine qt S M3 σ3 H3 ρ2 true ρ3 R3 e3 _ fun M4 H4 R4 t5 => iteT ?_
      split at el
      rotate_left
      · cases el
      rename_i is ρ4 e4
      split at el
      rotate_left
      · cases el
      rename_i hf1
      split at el
      rotate_left
      · cases el
      rename_i acc1 ρ5 e5
      refine qi1 S M4 σ3 H4 ρ3 _ _ R4 e4 _ fun M5 H5 J1 R5 t6 wk1 => ?_
      have t7 := (t4.trans t5).trans t6
      obtain ⟨m5, d5⟩ := t7.kp D _ mD hDl rfl nsD
      have ns5 := t7.sl D nsD
      have hacc5 := hacc.same t7.vis
      have wl1 : (wipe σ3 vs1).length = σ3.length := wipe_length σ3 vs1
      have wo1 : ∀ i, i ∉ vs1 → (wipe σ3 vs1)[i]? = σ3[i]? := fun i n => wipe_out n
      have hN1 := compF2_len _ _ _ _ _ el
      refine ⟨fun j k H' => k = is.length - j ∧ ∃ M' ρ' acc accV, Rel S M' (wipe σ3 vs1) H' ρ' ∧ Tr2 σ M H ρ (wipe σ3 vs1) M' H' ρ' ∧ Vis M5 H5 M' H' ∧ D ∈ M' ∧ H' D = some (.lst accV) ∧ DAll (Hid M' H') accV acc ∧ NS (wipe σ3 vs1) ρ' D ∧ j ≤ is.length ∧ compF G1 T1 E vs1 (is.drop j) acc ρ' = some (acc1, ρ5),
        ⟨is.length, by simp, M5, wipeR ρ4 vs1, acc, accV, R5.wiped hf1 wo1 wl1, (t'.trans t7).trans (Tr2.wiped wo1), Vis.refl, m5, d5, hacc5, NS.wiped ns5 wo1, Nat.zero_le _, e5⟩, ?_⟩
      rintro j k H6 ⟨rfl, M6, ρ6, acc6, accV6, R6, t8, v6, mD6, hD6, hacc6, ns6, lj, el6⟩
      obtain ⟨ws6, wg6⟩ := wk1 j M6 H6 v6
      cases hd6 : is.drop j with
      | nil =>
        rw [hd6] at el6
        cases el6
        have hj : j = is.length := by
          have := List.drop_eq_nil_iff.mp hd6
          omega
        refine .inl ⟨ws6 hj, ?_⟩
        have hwo : ∀ i, i ∉ vs → (wipe σ vs)[i]? = (wipe σ3 vs1)[i]? := fun i n => by
          rw [wipe_out (σ := σ3) (fun m => n (hvv i m)), ← hw, wipe_out n]
        have f6 := freeOf_rel R1 R6 hf
        exact ⟨M6, wipeR ρ5 vs, acc1, accV6, R6.wiped f6 hwo (by rw [wl1, hwl]), t8.trans (Tr2.wiped hwo), L2.Same.trans v' (L2.Same.trans t7.vis v6), mD6, hD6, hacc6, NS.wiped ns6 hwo, by rw [hr]; exact el⟩
      | cons d6 rest6 =>
        rw [hd6] at el6
        obtain ⟨hx6, hr6⟩ := get_drop hd6
        obtain ⟨go6, yd6⟩ := wg6 d6 hx6
        have hlt6 : j < is.length := (List.getElem?_eq_some_iff.mp hx6).1
        refine .inr ⟨go6, fun H' => ∃ M' ρ' acc accV, Rel S M' (wipe σ3 vs1) H' ρ' ∧ Tr2 σ M H ρ (wipe σ3 vs1) M' H' ρ' ∧ Vis M5 H5 M' H' ∧ D ∈ M' ∧ H' D = some (.lst accV) ∧ DAll (Hid M' H') accV acc ∧ NS (wipe σ3 vs1) ρ' D ∧ compF G1 T1 E vs1 (is.drop (j + 1)) acc ρ' = some (acc1, ρ5),
          fun H' ⟨M', ρ9, acc, accV, a1, a2, a3, a4, a5, a6, a7, a9⟩ => ⟨is.length - (j + 1), by omega, rfl, M', ρ9, acc, accV, a1, a2, a3, a4, a5, a6, a7, hlt6, a9⟩, fun x7 H7 hy7 => ?_⟩
        obtain ⟨sm7, iv7⟩ := yd6 x7 H7 hy7
        unfold compF at el6
        split at el6
        · cases el6
        rename_i ρ7 e7
        have tg7 : Tr2 (wipe σ3 vs1) M6 H6 ρ6 (wipe σ3 vs1) M6 H7 ρ6 := Tr2.grow sm7
        refine qg1 S M6 (wipe σ3 vs1) H7 ρ6 ρ7 x7 d6 (R6.grow sm7) iv7 e7 _ fun M8 σ8 H8 R8 t9 w8 => ?_
        have hw8 : wipe σ8 vs1 = wipe σ3 vs1 := by
          rw [w8 vs1 hts1]
          exact lc_read.wipe_wipe
        refine ⟨hw8, ?_⟩
        have ta := tg7.trans t9
        have hwo8 := wipe_back hw8
        have hwl8 : (wipe σ3 vs1).length = σ8.length := by rw [← hw8, wipe_length]
        split at el6
        · rename_i ρ8 e8
          refine qt1 S M8 σ8 H8 ρ7 true ρ8 R8 e8 _ fun M9 H9 R9 tb => iteT ?_
          split at el6
          · rename_i y ρ9 e9
            refine qe S M9 σ8 H9 ρ8 _ ρ9 R9 e9 _ fun Ma va Ha Ra tc ka => ?_
            have td := (ta.trans tb).trans tc
            obtain ⟨ma, da⟩ := td.kp D _ mD6 hD6 rfl ns6
            have nsa := td.sl D ns6
            have hacca := hacc6.same td.vis
            have hln := compF_len _ _ _ _ _ el6
            rw [List.length_append] at hln
            refine ⟨accV6, da, by rw [hacca.length]; exact Nat.lt_of_le_of_lt (m := 4000000) (by omega) (by decide), ?_⟩
            have Rb := Ra.updT (zs := accV6 ++ [va]) ma da nsa hS0
            have te' := t8.trans td
            have tf := te'.updT (zs := accV6 ++ [va]) hD0 ma da
            have fb := freeOf_rel R5 Rb hf1
            have vb : Vis Ma Ha Ma (upd Ha D (.lst (accV6 ++ [va]))) := hid_upd ma da
            exact ⟨Ma, wipeR ρ9 vs1, acc6 ++ [y], accV6 ++ [va], Rb.wiped fb hwo8 hwl8, tf.trans (Tr2.wiped hwo8), L2.Same.trans v6 (L2.Same.trans td.vis vb), ma, upd_same, (hacca.app (.cons ka .nil)).same vb, NS.wiped nsa hwo8, by rw [hr6]; exact el6⟩
          · cases el6
        · rename_i ρ8 e8
          refine qt1 S M8 σ8 H8 ρ7 false ρ8 R8 e8 _ fun M9 H9 R9 tb => iteF ?_
          have td := ta.trans tb
          obtain ⟨ma, da⟩ := td.kp D _ mD6 hD6 rfl ns6
          have fb := freeOf_rel R5 R9 hf1
          exact ⟨M9, wipeR ρ8 vs1, acc6, accV6, R9.wiped fb hwo8 hwl8, (t8.trans td).trans (Tr2.wiped hwo8), L2.Same.trans v6 td.vis, ma, da, hacc6.same td.vis, NS.wiped (td.sl D ns6) hwo8, by rw [hr6]; exact el6⟩
        · cases el6
    · rename_i ρ3 e3
      refine qt S M3 σ3 H3 ρ2 false ρ3 R3 e3 _ fun M4 H4 R4 t5 => iteF ?_
      have t7 := t4.trans t5
      obtain ⟨m5, d5⟩ := t7.kp D _ mD hDl rfl nsD
      have hwo := wipe_back hw
      have f6 := freeOf_rel R1 R4 hf
      exact ⟨M4, wipeR ρ3 vs, acc, accV, R4.wiped f6 hwo hwl, (t'.trans t7).trans (Tr2.wiped hwo), L2.Same.trans v' t7.vis, m5, d5, hacc.same t7.vis, NS.wiped (t7.sl D nsD) hwo, by rw [hr]; exact el⟩
    · cases el
section
variable {ι : Type} {Xf : ι → Cx} {K : PySem.W.Frag}
theorem uni_i [TC : TabsC] {tg e : Expr} {F : FM (List IV)} (hK : ∀ i, (Xf i).K = K) (h : ∀ i, IOk (Xf i) tg e F) : ∃ w, (∀ i, PI (Xf i) tg e w) ∧ ∀ (S : Sit) (M : List Addr) (σ : L2.St) (H : Hp) (ρ : List SV) (ds : List IV) (ρ' : List SV), Rel S M σ H ρ → F ρ = some (ds, ρ') →
    ∀ R : It → Hp → Prop, (∀ M' H' J, Rel S M' σ H' ρ' → Tr σ M H ρ M' H' ρ' → Walks K J M' H' ds → R J H') → w σ H R :=
  ⟨fun σ H R => ∀ i, (h i).choose σ H R, fun i => ⟨fun pins s σ H R I z => (h i).choose_spec.1.run pins s σ H R I (z i)⟩, fun S M σ H ρ ds ρ' R e Q q i => (h i).choose_spec.2 S M σ H ρ ds ρ' R e Q fun M' H' J a b c => q M' H' J a b (by rw [← hK i]; exact c)⟩
end
section
variable {X : Cx} {elt tg iter tg1 iter1 : Expr} {ifs ifs1 : List Expr} {scope : Scope} {own : List (Str × Nat)} {vs1 : List Nat} {pos : Pos} {ts ts1 : List Nat} {I I1 : FM (List IV)} {G G1 : FG} {T T1 : FM Bool} {E : FM RV}
theorem o_lc2 [TC : TabsC] (hc : X.calm = true) (hN : X.N.Nodup) (hi : IOk X tg iter I) (ok : BlkOk X.N X.env.scope scope own)
    (hg : ∀ (s : Shared) (H : Hp) (C : Addr) (cl : List (Str × Addr)) (fp : List Addr), GOk (X.blk s H scope (compEnvC scope cl C X.env) fp) tg ts G)
    (ht : ∀ (s : Shared) (H : Hp) (C : Addr) (cl : List (Str × Addr)) (fp : List Addr), TsOk (X.blk s H scope (compEnvC scope cl C X.env) fp) ifs T)
    (hi1 : ∀ (s : Shared) (H : Hp) (C : Addr) (cl : List (Str × Addr)) (fp : List Addr), IOk (X.blk s H scope (compEnvC scope cl C X.env) fp) tg1 iter1 I1)
    (hg1 : ∀ (s : Shared) (H : Hp) (C : Addr) (cl : List (Str × Addr)) (fp : List Addr), GOk (X.blk s H scope (compEnvC scope cl C X.env) fp) tg1 ts1 G1)
    (ht1 : ∀ (s : Shared) (H : Hp) (C : Addr) (cl : List (Str × Addr)) (fp : List Addr), TsOk (X.blk s H scope (compEnvC scope cl C X.env) fp) ifs1 T1)
    (he : ∀ (s : Shared) (H : Hp) (C : Addr) (cl : List (Str × Addr)) (fp : List Addr), OOk (X.blk s H scope (compEnvC scope cl C X.env) fp) elt E)
    (hv : ∀ i ∈ vs1, i ∈ own.map (·.2) := by decide) (hts : ∀ t ∈ ts, t ∈ own.map (·.2) := by decide) (hts1 : ∀ t ∈ ts1, t ∈ vs1 := by decide)
    (hs : ∀ x, foldedSetIterable iter X.env x = pure x := by intro _; rfl) (hs1 : ∀ env x, foldedSetIterable iter1 env x = pure x := by intro _ _; rfl) :
    OOk X (.ListComp elt [⟨tg, iter, ifs, 0⟩, ⟨tg1, iter1, ifs1, 0⟩] scope pos) (fLc2 I G T I1 G1 T1 (fDat E) (own.map (·.2)) vs1) := by
  obtain ⟨wi, pi, qi⟩ := hi
  let ι := Shared × Hp × Addr × List (Str × Addr) × List Addr
  let Xf : ι → Cx := fun x => X.blk x.1 x.2.1 scope (compEnvC scope x.2.2.2.1 x.2.2.1 X.env) x.2.2.2.2
  have hK : ∀ i, (Xf i).K = X.K := fun _ => rfl
  obtain ⟨g, pg, qg⟩ := uni_g (Xf := Xf) (K := X.K) hK fun i => hg i.1 i.2.1 i.2.2.1 i.2.2.2.1 i.2.2.2.2
  obtain ⟨tt, pt, qt⟩ := uni_ts (Xf := Xf) fun i => ht i.1 i.2.1 i.2.2.1 i.2.2.2.1 i.2.2.2.2
  obtain ⟨wi1, pi1, qi1⟩ := uni_i (Xf := Xf) (K := X.K) hK fun i => hi1 i.1 i.2.1 i.2.2.1 i.2.2.2.1 i.2.2.2.2
  obtain ⟨g1, pg1, qg1⟩ := uni_g (Xf := Xf) (K := X.K) hK fun i => hg1 i.1 i.2.1 i.2.2.1 i.2.2.2.1 i.2.2.2.2
  obtain ⟨tt1, pt1, qt1⟩ := uni_ts (Xf := Xf) fun i => ht1 i.1 i.2.1 i.2.2.1 i.2.2.2.1 i.2.2.2.2
  obtain ⟨te, pe, qe⟩ := uni_o (Xf := Xf) (K := X.K) hK fun i => o_dat (he i.1 i.2.1 i.2.2.1 i.2.2.2.1 i.2.2.2.2)
  exact ⟨_, pe_lc2 hc hN pi ok hv (fun s H C cl fp => pg (s, H, C, cl, fp)) (fun s H C cl fp => pt (s, H, C, cl, fp)) (fun s H C cl fp => pi1 (s, H, C, cl, fp)) (fun s H C cl fp => pg1 (s, H, C, cl, fp)) (fun s H C cl fp => pt1 (s, H, C, cl, fp)) (fun s H C cl fp => pe (s, H, C, cl, fp)) hs hs1,
    lc2_read qi qg qt qi1 qg1 qt1 qe hts hts1 hv⟩
end
end Cb

end

section
set_option maxRecDepth 100000
set_option maxHeartbeats 4000000
set_option autoImplicit false
/-! Pf, part T: for a, *rest in .. -/
namespace Cb
open PySem PySem.Spec PyProof.Rows L2
end Cb

end

section
set_option maxRecDepth 100000
set_option maxHeartbeats 4000000
/-! Cb, part Ea: own error classes with an __init__ that stores its arguments: made by position and by name. -/
namespace Cb
open PySem PySem.Spec PySem.W PySem.Calls PyProof.Rows PySem.HandSPX
end Cb

end

section
set_option maxRecDepth 100000
set_option maxHeartbeats 4000000
/-! Cb, part Eb: an own error class, its __init__ of one or two fields; made. -/
namespace Cb
open PySem PySem.Spec PySem.W PySem.Calls PyProof.Rows PySem.HandSPX Builtin Builtin.ObjectAttr
end Cb

end

section
set_option maxRecDepth 100000
set_option maxHeartbeats 4000000
/-! Cb, part Ec: the __init__ of own error classes, for each name of a field. -/
namespace Cb
open PySem PySem.Spec PySem.W PySem.Calls PyProof.Rows PySem.HandSPX Builtin Builtin.ObjectAttr
end Cb


end

section
set_option maxRecDepth 100000
set_option maxHeartbeats 4000000
/-! Cb, part Ed: rules for own errors: raise X(e), X(e, ..).f, X(k = e, ..).f. -/
namespace Cb
open PySem PySem.Spec PyProof.Rows L2
end Cb

end

section
set_option maxRecDepth 100000
set_option maxHeartbeats 4000000
/-! Cb, part Ee: isinstance of errors; a def that is called out of an except suite with the caught error. -/
namespace Cb
open PySem PySem.Spec PyProof.Rows L2
/-! ### a def called out of a suite: what it promises may speak of the error -/
end Cb

end

section
set_option maxRecDepth 100000
set_option maxHeartbeats 4000000
/-! Cb, part Ef: try with several clauses, each `except C as n` or `except (C, ..) as n`, the same n. -/
namespace Cb
open PySem PySem.Spec PyProof.Rows L2
end Cb

end

section
set_option maxRecDepth 100000
set_option maxHeartbeats 4000000
/-! Cb, part Eg: heaps whose tables of code objects grow; the end of a law with tables, where no repr is under way. -/
namespace Cb
open PySem PySem.Spec PyProof.Rows L2 LamX
/-- all but c and the tables stays -/
def Keep (c : Addr) (H H' : Hp) : Prop := ∀ b o, b ≠ c → (∀ ps, o ≠ .tbl ps) → H b = some o → H' b = some o
theorem Keep.refl (c : Addr) (H : Hp) : Keep c H H := fun _ _ _ _ h => h
theorem Keep.trans {c : Addr} {H H1 H2 : Hp} (a : Keep c H H1) (b : Keep c H1 H2) : Keep c H H2 := fun x o n t h => b x o n t (a x o n t h)
theorem Keep.of {c : Addr} {H H' : Hp} (s : SameBut c H H') : Keep c H H' := fun b o n _ h => s b o n h
/-! carried over a growing table -/
theorem ext_lst {H H' : Hp} {a : Addr} {xs : List V} (s : ExtN H H') (h : H a = some (.lst xs)) : H' a = some (.lst xs) := s _ _ h (fun _ z => nomatch z)
theorem PoolAt.ext {H H' : Hp} {c : Addr} (s : ExtN H H') (h : PoolAt H c) : PoolAt H' c := by
  obtain ⟨x, d, k, e, r⟩ := h
  exact ⟨x, d, k, ext_lst s e, r⟩
theorem Tabs.new {T : List (Addr × Str)} {H : Hp} {p : Addr} {u : HO} (n : H p = none) (t : Tabs T H) : Tabs T (upd H p u) := t.ext (same_upd n)
theorem Tabs.same {T : List (Addr × Str)} {H H' : Hp} (s : L2.Same H H') (t : Tabs T H) : Tabs T H' := t.ext s
end Cb

end

section
set_option maxRecDepth 100000
set_option maxHeartbeats 4000000
/-! Cb, part Eh: xs.count(True) of truths; defs that may raise; lambdas handed to a def. -/
namespace Cb
open PySem PySem.Spec PyProof.Rows L2
/-! ### defs that may raise -/
/-! ### defs with lambdas -/
end Cb

end

section
set_option maxRecDepth 100000
set_option maxHeartbeats 4000000
set_option autoImplicit false
/-! Pf, part V: defs that may raise, as functions of data; defs with lambdas: tables of code objects grow; the call `caught(lambda: f(..))`. -/
namespace Cb
open PySem PySem.Spec PyProof.Rows L2
/-! ### defs that may raise -/
/-- how a call ends: it hands back a datum, or an error of a kind with a field -/
inductive OutX where
  | ret (x : PyData) | err (k : Nat) (d : PyData)
/-- the classes of the kinds, the names of their fields -/
structure EK where
  cl : Nat → Addr
  fl : Nat → Str
def EndsX (Z : EK) (M : List Addr) (H : Hp) (Q : VK) (E : XK) : OutX → Prop
  | .ret x => ∀ v H', L2.Same H H' → DA (Hid M H') v x → Q v H'
  | .err k d => ∀ dd v H', L2.Same H H' → H' dd = some (.xd [(Z.fl k, v)]) → DA (Hid M H') v d → E (.ref (Z.cl k)) (some dd) H'
theorem EndsX.up {Z : EK} {M : List Addr} {H H1 : Hp} {Q : VK} {E : XK} {o : OutX} (h : EndsX Z M H Q E o) (s : L2.Same H H1) : EndsX Z M H1 Q E o := by
  cases o with
  | ret x => exact fun v H' s1 => h v H' (L2.Same.trans s s1)
  | err k d => exact fun dd v H' s1 => h dd v H' (L2.Same.trans s s1)
/-! ### a bundle of contexts -/
/-! ### a caught call -/
/-- bounds of what is told: data of at most 290 deep -/
def fit3 (d : PyData) : Bool := d.showable && decide (d.shown.length ≤ gN) && decide (d.depth ≤ 300) && okd d
theorem fit3_of {d : PyData} (h : fit3 d = true) : Fit gN 300 d := by
  have h1 := Bool.and_eq_true_iff.mp h
  have h2 := Bool.and_eq_true_iff.mp h1.1
  have h3 := Bool.and_eq_true_iff.mp h2.1
  exact ⟨h3.1, of_decide_eq_true h3.2, of_decide_eq_true h2.2, h1.2⟩
theorem fit3_mk {d : PyData} (h : Fit gN 300 d) : fit3 d = true := by
  unfold fit3
  rw [h.sh, decide_eq_true h.len, decide_eq_true h.dep, h.ok]
  rfl
end Cb

end

section
set_option maxRecDepth 100000
set_option maxHeartbeats 4000000
set_option autoImplicit false
/-! Pf, part W: defs with lambdas (their tables grow): what they promise; their calls. -/
namespace Cb
open PySem PySem.Spec PyProof.Rows L2
end Cb

end

section
set_option maxRecDepth 100000
set_option maxHeartbeats 4000000
set_option autoImplicit false
/-! Pf, part X: repr of deep data; a def whose first statements are read here, its last by hand. -/
namespace Cb
open PySem PySem.Spec PyProof.Rows L2
section
variable {X : Cx}
def opRepr3 : List PyData → Option PyData
  | [d] => if fit3 d = true then some (.str d.shown) else none
  | _ => none
theorem opRepr3_ok (hg : X.A.guards = some []) (hu : X.A.units + (300 + 1) < cLine) : CallOk true X (.builtin "repr") opRepr3 := by
  refine ⟨_, call_reprD (m := 300) hg hu, fun M H vs ds z h e Q q => ?_⟩
  unfold opRepr3 at e
  split at e
  · rename_i d
    split at e
    · rename_i c
      cases e
      obtain ⟨v, rfl, h'⟩ := vws1 h
      have hd : DA H v d := by
        cases d with
        | list ds =>
          obtain ⟨a, us, rfl, a1, a2⟩ := h'
          exact .lst a1 a2.hid
        | tuple ds => exact (h'.2 rfl).hid
        | _ => exact DA.hid h'
      exact ⟨v, d, gN, rfl, hd, fit3_of c, by decide, q _ H rok_str⟩
    · cases e
  · cases e
theorem unitsR3 {k : Nat} {A : Around} (r : Room k A) (h : 7 ≤ k) : A.units + (300 + 1) < cLine := by
  have := r.un
  omega
end
/-- at a def's start, its first slot holding v -/
theorem rel_fix [TC : TabsC] {H0 : Hp} {n : Nat} {v : V} {σ : L2.St} (hT : TC.tp H0) (h : σ.length = n + 1) (h0 : σ[0]? = some (some v)) : Rel ⟨[], [], noT H0⟩ [] σ H0 (.fix v :: List.replicate n .un) where
  ok := ⟨(fun a m => nomatch m), (fun b o e => (noT_at e).2), (fun p m => nomatch m), (fun p m => nomatch m)⟩
  len := by rw [List.length_cons, List.length_replicate]; exact h
  sub := fun a m => nomatch m
  al := fun a m => nomatch m
  out := fun b o _ e => (noT_at e).1
  slots := fun i s e => by
    cases i with
    | zero =>
      cases e
      exact h0
    | succ i =>
      have := List.eq_of_mem_replicate (List.mem_of_getElem? e)
      subst this
      trivial
  inj := fun i j s t a h1 h2 l1 l2 => by
    have un : ∀ (i : Nat) (s : SV), (SV.fix v :: List.replicate n .un)[i]? = some s → s.lst ≠ none → False := fun i s e l => by
      cases i with
      | zero =>
        cases e
        exact l rfl
      | succ i =>
        have := List.eq_of_mem_replicate (List.mem_of_getElem? e)
        subst this
        exact l rfl
    exact (un i s h1 l1).elim
  pars := fun p m => nomatch m
  tabs := hT
end Cb

end

section
set_option maxRecDepth 100000
set_option maxHeartbeats 4000000
set_option autoImplicit false
/-! Pf, part Z: dicts displayed with values that are worked out; tuples repeated many times; texts repeated. -/
namespace Cb
open PySem PySem.Spec PyProof.Rows L2
/-! ### {k: e, ..} -/
def fPairs : List (Key × FM RV) → FM (List (Key × PyData))
  | [] => fpure []
  | (k, F) :: r => fbind (fDat F) fun x => match x with
    | .dat d => fbind (fPairs r) fun ps => fpure ((k, d) :: ps)
    | _ => fun _ => none
def fDisp (l : List (Key × FM RV)) : FM RV := fbind (fPairs l) fun ps => if ps.length ≤ 15 then fpure (.dat (dictOf (mergeP [] ps))) else fun _ => none
section
variable {X : Cx} {pos : Pos}
def DOk [TC : TabsC] (X : Cx) (pos : Pos) (keys : List (Option Expr)) (values : List Expr) (l : List (Key × FM RV)) : Prop := ∃ trs, PPs X pos keys values trs ∧
  ∀ (S : Sit) (M : List Addr) (σ : L2.St) (H : Hp) (ρ : List SV) (ps : List (Key × PyData)) (ρ' : List SV), Rel S M σ H ρ → fPairs l ρ = some (ps, ρ') →
    ∀ Q : List (V × V) → Hp → Prop, (∀ M' (kvs : List (Key × V)) H', Rel S M' σ H' ρ' → Tr σ M H ρ M' H' ρ' → KD (Hid M' H') kvs ps → Q (kvs.map fun kv => (kV kv.1, kv.2)) H') → tPairs trs σ H Q
theorem d_nil [TC : TabsC] : DOk X pos [] [] [] := ⟨[], pps_nil, fun S M σ H ρ ps ρ' R e Q q => by
  cases e
  exact q M [] H R Tr2.refl .nil⟩
theorem d_cons [TC : TabsC] {k v : Expr} {ks : List (Option Expr)} {vs : List Expr} {key : Key} {F : FM RV} {l : List (Key × FM RV)} (hk : PE X k (tC (kV key))) (hv : OOk X v F) (h : DOk X pos ks vs l) : DOk X pos (some k :: ks) (v :: vs) ((key, F) :: l) := by
  obtain ⟨t1, p1, q1⟩ := o_dat hv
  obtain ⟨trs, p2, q2⟩ := h
  refine ⟨_, pps_cons hk p1 p2, fun S M σ H ρ ps ρ' R e Q q => ?_⟩
  obtain ⟨x, ρ1, ex, e⟩ := fbind_some e
  cases x with
  | dat d =>
    obtain ⟨ps2, ρ2, e2, e⟩ := fbind_some e
    cases e
    show tC (kV key) σ H _
    refine q1 S M σ H ρ _ _ R ex _ fun M1 v1 H1 R1 s1 k1 => ?_
    refine q2 S M1 σ H1 ρ1 _ _ R1 e2 _ fun M2 kvs H2 R2 s2 k2 => ?_
    exact q M2 ((key, v1) :: kvs) H2 R2 (s1.trans s2) (.cons ⟨rfl, DA.same k1 s2.vis⟩ k2)
  | _ => cases e
theorem o_dispF [TC : TabsC] {keys : List (Option Expr)} {values : List Expr} {l : List (Key × FM RV)} (h : DOk X pos keys values l) (hall : keys.all (·.isSome) = true := by rfl) (hl : keys.length = values.length := by rfl) (h0 : keys ≠ [] := by exact fun z => nomatch z)
    (h15 : keys.length ≤ 15 := by decide) : OOk X (.Dict keys values pos) (fDisp l) := by
  obtain ⟨trs, pd, qd⟩ := h
  refine ⟨_, pe_disp pd hall hl h0 h15, fun S M σ H ρ r ρ' R e Q q => ?_⟩
  obtain ⟨ps, ρ1, ep, e⟩ := fbind_some e
  split at e
  rotate_left
  · cases e
  rename_i hle
  cases e
  intro p hp
  have hS0 : S.H0 p = none := R.fresh hp
  have sD := same_upd (o := .dK []) hp
  have R1 : Rel S (p :: M) σ (upd H p (.dK [])) ρ := R.newh sD hp upd_same rfl
  have t1 : Tr σ M H ρ (p :: M) (upd H p (.dK [])) ρ := Tr2.newl sD hp
  refine qd S (p :: M) σ _ ρ _ _ R1 ep _ fun M2 kvs H2 R2 t2 k2 => ?_
  have ns : NS σ ρ p := R.notSlot hp
  obtain ⟨m2, d2⟩ := t2.kp p _ List.mem_cons_self upd_same rfl ns
  have ns2 := t2.sl p ns
  have R3 := R2.updH (u := .dK (mergeK [] kvs)) m2 d2 rfl rfl ns2 hS0
  have tt := t1.trans t2
  have t3 := tt.updH (u := .dK (mergeK [] kvs)) (noT_none hp) m2 d2 rfl
  have v3 : Vis M2 H2 M2 (upd H2 p (.dK (mergeK [] kvs))) := hid_updH m2 d2 rfl
  refine ⟨d2, kvs, rfl, by rw [KD.len k2]; exact hle, q (outOf p M2) _ _ (R3.show hS0 ns2) (t3.show (noT_none hp)) ?_⟩
  have ha := KD.same (vis_out (p := p)) (KD.same v3 (KD.merge k2 (.nil : KD (Hid M2 H2) [] [])))
  show DA (Hid (outOf p M2) _) (.ref p) (dictOf _)
  unfold dictOf
  rw [← KD.zip ha]
  exact .dk (hid_dK upd_same not_out) (KD.dall ha)
end
def rRepTB (K : PySem.W.Frag) : R2 := fun x y H Q => ∃ l k xs, x = .ref l ∧ y = .int k ∧ SqT K H l xs ∧ xs ≠ [] ∧ 0 ≤ k ∧ k ≤ 100000 ∧ xs.length ≤ 10 ∧ (k = 1 → Q (.ref l) H) ∧ (k ≠ 1 → ∀ p u, TupO u (List.replicate k.toNat xs).flatten → H p = none → Q (.ref p) (upd H p u))
section
variable {X : Cx}
theorem op_repTB : OpR X (binaryOp .Mult) (rRepTB X.K) := by
  intro pins s σ H x y v u Q I rx ry h
  obtain ⟨l, k, xs, rfl, rfl, hT, hne, h1, h2, hz, q1, q⟩ := h
  cases rx
  obtain ⟨t, rfl⟩ := ry
  obtain ⟨its, r, ⟨⟨cls, dd, data, sl⟩, ho, hc, n, hd⟩, hs⟩ := I.tuple hT
  simp only at hc hd
  subst hc hd
  have hle : its.length = xs.length := r.length.symm
  have hi : its.toArray.isEmpty = false := by
    cases its with
    | nil => exact absurd (List.eq_nil_of_length_eq_zero hle.symm) hne
    | cons a b => rfl
  have c0 : (decide (k < -(2 ^ 63)) || decide (k ≥ 2 ^ 63)) = false := by
    rw [decide_eq_false (by omega), decide_eq_false (by omega)] <;> rfl
  by_cases e1 : k = 1
  · subst e1
    have c1 : (its.toArray.isEmpty || (1 : Int) == 1) = true := by
      rw [hi]
      rfl
    exact wpAny_binaryOp_repeat_ref (T := "tuple") (U := "int") (by decide) ⟨_, ho, rfl⟩ (fun s' => typeIs_int s' 1 t) noFill_tuple_mul F.fills_int_mul F.slot_int_rmul repeat_tuple F.slot_int_index.lookup
      (call_meets F.slot_int_rmul (typeIs_int s 1 t) F.entry_int_rmul (F.args_int_rmul_2 _ _) (int_rmul_tuple 1 t l its.toArray n dd sl)
        ⟨ho, rfl, ⟨_, ho, rfl⟩, call_meets F.slot_tuple_mul ⟨_, ho, rfl⟩ F.entry_tuple_mul (F.args_tuple_mul_2 _ _) (tup_mul1 l its.toArray n dd sl 1 t c0 c1) ⟨ho, .ref l, H, I, rfl, q1 rfl⟩⟩)
  have c1 : (its.toArray.isEmpty || k == 1) = false := by
    rw [hi, Bool.false_or]
    exact beq_eq_false_iff_ne.mpr e1
  have q := q e1
  by_cases e0 : k = 0
  · subst e0
    have c2 : (decide ((0 : Int) ≤ 0) || its.toArray.isEmpty) = true := rfl
    exact wpAny_binaryOp_repeat_ref (T := "tuple") (U := "int") (by decide) ⟨_, ho, rfl⟩ (fun s' => typeIs_int s' 0 t) noFill_tuple_mul F.fills_int_mul F.slot_int_rmul repeat_tuple F.slot_int_index.lookup
      (call_meets F.slot_int_rmul (typeIs_int s 0 t) F.entry_int_rmul (F.args_int_rmul_2 _ _) (int_rmul_tuple 0 t l its.toArray n dd sl)
        ⟨ho, rfl, ⟨_, ho, rfl⟩, call_meets F.slot_tuple_mul ⟨_, ho, rfl⟩ F.entry_tuple_mul (F.args_tuple_mul_2 _ _) (tup_mul0 l its.toArray n dd sl 0 t c0 c1 c2) ⟨ho, laidF (s := s) (xs := []) I .nil (Nat.zero_le _) q⟩⟩)
  have hsz0 : its.toArray.size = xs.length := by rw [List.size_toArray, hle]
  have hm : ((its.toArray.size : Nat) : Int) * k ≤ 1000000 := by
    rw [hsz0]
    have a1 : ((xs.length : Nat) : Int) * k ≤ 10 * k := Int.mul_le_mul_of_nonneg_right (by omega) (by omega)
    omega
  have bound : ∀ m : Nat, m = xs.length → k.toNat * m ≤ sizeLine := fun m e => by
    rw [sizeLine_eq]
    have a1 : k.toNat * m ≤ 100000 * 10 := Nat.mul_le_mul (by omega) (by omega)
    omega
  have flen : (List.replicate k.toNat its).flatten.length ≤ sizeLine := by
    rw [PyProof.Rows.lm_len_rep_flat]
    exact bound _ hle
  have c2 : (decide (k ≤ 0) || its.toArray.isEmpty) = false := by
    rw [hi, Bool.or_false]
    exact decide_eq_false (by omega)
  have c4 : Builtin.Tuple.tupleTooMany (((its.toArray.size : Nat) : Int) * k) = false := by
    unfold Builtin.Tuple.tupleTooMany
    rw [sizeLine_eq]
    exact decide_eq_false (by omega)
  refine wpAny_binaryOp_repeat_ref (T := "tuple") (U := "int") (by decide) ⟨_, ho, rfl⟩ (fun s' => typeIs_int s' k t) noFill_tuple_mul F.fills_int_mul F.slot_int_rmul repeat_tuple F.slot_int_index.lookup
    (call_meets F.slot_int_rmul (typeIs_int s k t) F.entry_int_rmul (F.args_int_rmul_2 _ _) (int_rmul_tuple k t l its.toArray n dd sl)
      ⟨ho, rfl, ⟨_, ho, rfl⟩, call_meets F.slot_tuple_mul ⟨_, ho, rfl⟩ F.entry_tuple_mul (F.args_tuple_mul_2 _ _) (tuple_mulW l its.toArray n dd sl k t c0 c1 c2 (by omega) c4 (by rw [size_rep, List.size_toArray]; exact flen)) ⟨ho, ?_⟩⟩)
  rw [size_rep]
  exact laidF (s := s) (xs := (List.replicate k.toNat xs).flatten) I (r.rep k.toNat) (by rw [PyProof.Rows.lm_len_rep_flat]; exact bound _ rfl) q

/-- tuple * int, many times -/
def opMulTB : PyData → PyData → Option PyData
  | .tuple xs, .int k => if 0 ≤ k ∧ k ≤ 100000 ∧ xs.length ≤ 10 ∧ xs.isEmpty = false then some (.tuple (List.replicate k.toNat xs).flatten) else none
  | _, _ => none
theorem opMulTB_ok : Op2Ok true X (binaryOp .Mult) opMulTB := by
  refine ⟨_, op_repTB, fun M H x y dx dy z h1 h2 e Q q => ?_⟩
  unfold opMulTB at e
  split at e
  · rename_i xs k
    split at e
    · rename_i c
      cases e
      cases vw_int h2
      obtain ⟨⟨a, ys, rfl, b1, b2⟩, b3⟩ := h1
      have ne : ys ≠ [] := fun z => by
        subst z
        cases b2
        cases c.2.2.2
      refine ⟨a, k, ys, rfl, rfl, b1, ne, c.1, c.2.1, by rw [b2.length]; exact c.2.2.1, fun e1 => ?_, fun e1 p u hu hp => q _ _ (rok_tup hp hu (b2.rep _))⟩
      subst e1
      have er : (List.replicate (1 : Int).toNat xs).flatten = xs := by simp
      rw [er] at q
      exact q _ H ⟨L2.Same.refl _, b3 rfl⟩
    · cases e
  · cases e
end
/-! ### text * int -/
section
variable {X : Cx}
theorem mulOk_of {x : Str} {k : Int} (h0 : 0 ≤ k) (h1 : k ≤ 1000) (hx : x.length ≤ 1000) : MulOk x k := by
  refine ⟨?_, fun h _ => ?_, fun h _ => ?_⟩
  · rw [decide_eq_false (by omega), decide_eq_false (by omega)] <;> rfl
  · refine Int.not_lt.mpr (Int.le_ediv_of_mul_le (by omega) ?_)
    have : (x.length : Int) * k ≤ 1000 * k := Int.mul_le_mul_of_nonneg_right (by omega) (by omega)
    omega
  · have : x.length * k.toNat ≤ 1000 * 1000 := Nat.mul_le_mul hx (by omega)
    unfold Builtin.Str.tooLong
    exact decide_eq_false (by rw [sizeLine_eq]; omega)
theorem op_mulS : OpR X (binaryOp .Mult) (fun x y H Q => ∃ (i : Str) (k : Int), x = .str i ∧ y = .int k ∧ 0 ≤ k ∧ k ≤ 1000 ∧ i.length ≤ 1000 ∧ Q (.str (Txt.mul i k)) H) := by
  intro pins s σ H x y v u Q I rx ry h
  obtain ⟨i, k, rfl, rfl, h0, h1, hx, q⟩ := h
  obtain ⟨t, rfl⟩ := rx
  obtain ⟨t', rfl⟩ := ry
  exact SB.mul (mulOk_of h0 h1 hx) fun t' tk => ⟨.str (Txt.mul i k), H, I.tok _, ⟨_, rfl⟩, q⟩
def opMulS : PyData → PyData → Option PyData
  | .str x, .int k => if 0 ≤ k ∧ k ≤ 1000 ∧ x.length ≤ 1000 then some (.str (Txt.mul x k)) else none
  | _, _ => none
theorem opMulS_ok : Op2Ok true X (binaryOp .Mult) opMulS := by
  refine ⟨_, op_mulS, fun M H x y dx dy z h1 h2 e Q q => ?_⟩
  unfold opMulS at e
  split at e
  · rename_i xs k
    split at e
    · rename_i c
      cases e
      cases vw_int h2
      cases vw_str h1
      exact ⟨_, _, rfl, rfl, c.1, c.2.1, c.2.2, q _ H rok_str⟩
    · cases e
  · cases e
/-- a truth is True, is False -/
def opIsB : PyData → PyData → Option PyData
  | .bool a, .bool b => some (.bool (decide (a = b)))
  | _, _ => none
theorem opIsB_ok : Op2Ok false X (compareOp .Is) opIsB := by
  refine ⟨_, op_is_bl, fun M H x y dx dy z h1 h2 e Q q => ?_⟩
  unfold opIsB at e
  split at e
  · cases e
    cases vw_bool h1
    cases vw_bool h2
    exact ⟨_, _, rfl, rfl, q _ H rok_bool⟩
  · cases e
end
end Cb

end

section
set_option maxRecDepth 100000
set_option maxHeartbeats 4000000
set_option autoImplicit false
namespace Cb
open PySem PySem.Spec PyProof.Rows L2
def topS (i : Nat) : Stmt := PySem.Challenge.pw_codeback_k15_what_code_is.main.body.getD i (.Pass ⟨0, 0, 0, 0⟩)
abbrev s_is_integer : Stmt := topS 11
abbrev s_is_word : Stmt := topS 12
abbrev s_is_name : Stmt := topS 18
abbrev s_are_ascending : Stmt := topS 19
abbrev s_is_array : Stmt := topS 20
abbrev s_is_arrays : Stmt := topS 21
abbrev s_is_count : Stmt := topS 27
abbrev s_is_instruction : Stmt := topS 28
abbrev s_is_head : Stmt := topS 29
abbrev s_is_code : Stmt := topS 30
abbrev s_law_cell : Stmt := topS 32
abbrev s_law_pool : Stmt := topS 33
abbrev s_law_draw : Stmt := topS 34
abbrev s_law_figure : Stmt := topS 35
abbrev s_law_titles : Stmt := topS 36
abbrev s_law_grow : Stmt := topS 37
abbrev s_law_block : Stmt := topS 38
abbrev s_law_sound : Stmt := topS 39
abbrev s_law_plan : Stmt := topS 40
abbrev s_law_whole : Stmt := topS 41
abbrev s_law_is_name : Stmt := topS 42
abbrev s_law_is_row : Stmt := topS 43
abbrev s_law_are_parts : Stmt := topS 44
abbrev s_law_is_plan : Stmt := topS 45
abbrev s_law_odd_row : Stmt := topS 46
abbrev s_law_bent_part : Stmt := topS 47
abbrev s_law_spoilt : Stmt := topS 48
abbrev s_law_asked : Stmt := topS 49
abbrev s_law_right : Stmt := topS 50
abbrev s_law_limits_right : Stmt := topS 51
abbrev s_law_truths_right : Stmt := topS 52
abbrev s_law : Stmt := topS 53
theorem sc_is_integer : FnScope ["value"] ["value"] (defScope s_is_integer) := ⟨rfl, rfl, rfl, by decide +kernel, rfl, by decide +kernel, by decide +kernel⟩
theorem sc_is_word : FnScope ["value"] ["value"] (defScope s_is_word) := ⟨rfl, rfl, rfl, by decide +kernel, rfl, by decide +kernel, by decide +kernel⟩
theorem sc_is_name : FnScope ["value", "character"] ["value"] (defScope s_is_name) := ⟨rfl, rfl, rfl, by decide +kernel, rfl, by decide +kernel, by decide +kernel⟩
theorem sc_are_ascending : FnScope ["names", "index"] ["names"] (defScope s_are_ascending) := ⟨rfl, rfl, rfl, by decide +kernel, rfl, by decide +kernel, by decide +kernel⟩
theorem sc_is_array : FnScope ["value"] ["value"] (defScope s_is_array) := ⟨rfl, rfl, rfl, by decide +kernel, rfl, by decide +kernel, by decide +kernel⟩
theorem sc_is_arrays : FnScope ["value", "array", "name", "size"] ["value"] (defScope s_is_arrays) := ⟨rfl, rfl, rfl, by decide +kernel, rfl, by decide +kernel, by decide +kernel⟩
theorem sc_is_count : FnScope ["value", "low", "high"] ["value", "low", "high"] (defScope s_is_count) := ⟨rfl, rfl, rfl, by decide +kernel, rfl, by decide +kernel, by decide +kernel⟩
theorem sc_is_instruction : FnScope ["value", "function", "arrays", "names", "word", "given"] ["value", "function", "arrays", "names"] (defScope s_is_instruction) := ⟨rfl, rfl, rfl, by decide +kernel, rfl, by decide +kernel, by decide +kernel⟩
theorem sc_is_head : FnScope ["value"] ["value"] (defScope s_is_head) := ⟨rfl, rfl, rfl, by decide +kernel, rfl, by decide +kernel, by decide +kernel⟩
theorem sc_is_code : FnScope ["value", "functions", "function", "names", "one", "other", "arrays", "name", "size", "row"] ["value"] (defScope s_is_code) := ⟨rfl, rfl, rfl, by decide +kernel, rfl, by decide +kernel, by decide +kernel⟩
theorem sc_law_cell : FnScope ["_law_script", "_law_k", "_law_state", "_law_figure_here"] ["_law_script", "_law_k"] (defScope s_law_cell) := ⟨rfl, rfl, rfl, by decide +kernel, rfl, by decide +kernel, by decide +kernel⟩
theorem sc_law_pool : FnScope ["_law_figure_here", "_law_digits"] ["_law_figure_here"] (defScope s_law_pool) := ⟨rfl, rfl, rfl, by decide +kernel, rfl, by decide +kernel, by decide +kernel⟩
theorem sc_law_draw : FnScope ["_law_pool_here", "_law_most", "_law_state", "_law_digit"] ["_law_pool_here", "_law_most"] (defScope s_law_draw) := ⟨rfl, rfl, rfl, by decide +kernel, rfl, by decide +kernel, by decide +kernel⟩
theorem sc_law_figure : FnScope ["_law_pool_here", "_law_some"] ["_law_pool_here"] (defScope s_law_figure) := ⟨rfl, rfl, rfl, by decide +kernel, rfl, by decide +kernel, by decide +kernel⟩
theorem sc_law_titles : FnScope ["_law_pool_here", "_law_many", "_law_own", "_law_found", "_law_left", "_law_turn"] ["_law_pool_here", "_law_many"] (defScope s_law_titles) := ⟨rfl, rfl, rfl, by decide +kernel, rfl, by decide +kernel, by decide +kernel⟩
theorem sc_law_grow : FnScope ["_law_pool_here", "_law_room", "_law_high", "_law_slots", "_law_cells", "_law_titles_here", "_law_way", "_law_title", "_law_size", "_law_spot", "_law_many", "_law_turn", "_law_ways"] ["_law_pool_here", "_law_room", "_law_high"] (defScope s_law_grow) := ⟨rfl, rfl, rfl, by decide +kernel, rfl, by decide +kernel, by decide +kernel⟩
theorem sc_law_block : FnScope ["_law_pool_here", "_law_room", "_law_many", "_law_is_last", "_law_rows", "_law_high", "_law_turn", "_law_more", "_law_way", "_law_need"] ["_law_pool_here", "_law_room", "_law_many", "_law_is_last"] (defScope s_law_block) := ⟨rfl, rfl, rfl, by decide +kernel, rfl, by decide +kernel, by decide +kernel⟩
theorem sc_law_sound : FnScope ["_law_pool_here", "_law_title", "_law_params", "_law_room", "_law_many", "_law_blocks", "_law_k", "_law_spots", "_law_rows", "_law_block_here", "_law_found", "_law_row"] ["_law_pool_here", "_law_title", "_law_params", "_law_room", "_law_many"] (defScope s_law_sound) := ⟨rfl, rfl, rfl, by decide +kernel, rfl, by decide +kernel, by decide +kernel⟩
theorem sc_law_plan : FnScope ["_law_pool_here", "_law_most", "_law_many", "_law_cells", "_law_titles_here", "_law_sizes", "_law_title", "_law_found", "_law_size", "_law_room", "_law_call", "_law_more"] ["_law_pool_here", "_law_most", "_law_many"] (defScope s_law_plan) := ⟨rfl, rfl, rfl, by decide +kernel, rfl, by decide +kernel, by decide +kernel⟩
theorem sc_law_whole : FnScope ["_law_thing", "_law_low", "_law_high"] ["_law_thing", "_law_low", "_law_high"] (defScope s_law_whole) := ⟨rfl, rfl, rfl, by decide +kernel, rfl, by decide +kernel, by decide +kernel⟩
theorem sc_law_is_name : FnScope ["_law_thing", "_law_barred", "_law_signs", "_law_sign"] ["_law_thing", "_law_barred"] (defScope s_law_is_name) := ⟨rfl, rfl, rfl, by decide +kernel, rfl, by decide +kernel, by decide +kernel⟩
theorem sc_law_is_row : FnScope ["_law_thing", "_law_slots", "_law_size", "_law_known", "_law_bare"] ["_law_thing", "_law_slots", "_law_size", "_law_known", "_law_bare"] (defScope s_law_is_row) := ⟨rfl, rfl, rfl, by decide +kernel, rfl, by decide +kernel, by decide +kernel⟩
theorem sc_law_are_parts : FnScope ["_law_thing", "_law_barred", "_law_part"] ["_law_thing"] (defScope s_law_are_parts) := ⟨rfl, rfl, rfl, by decide +kernel, rfl, by decide +kernel, by decide +kernel⟩
theorem sc_law_is_plan : FnScope ["_law_thing", "_law_part", "_law_lists", "_law_row", "_law_calls", "_law_bare", "_law_known", "_law_title", "_law_params", "_law_slots", "_law_rows"] ["_law_thing"] (defScope s_law_is_plan) := ⟨rfl, rfl, rfl, by decide +kernel, rfl, by decide +kernel, by decide +kernel⟩
theorem sc_law_odd_row : FnScope ["_law_pool_here", "_law_slots", "_law_size", "_law_title", "_law_some"] ["_law_pool_here", "_law_slots", "_law_size", "_law_title"] (defScope s_law_odd_row) := ⟨rfl, rfl, rfl, by decide +kernel, rfl, by decide +kernel, by decide +kernel⟩
theorem sc_law_bent_part : FnScope ["_law_pool_here", "_law_part", "_law_title", "_law_params", "_law_slots", "_law_rows", "_law_heads", "_law_some"] ["_law_pool_here", "_law_part"] (defScope s_law_bent_part) := ⟨rfl, rfl, rfl, by decide +kernel, rfl, by decide +kernel, by decide +kernel⟩
theorem sc_law_spoilt : FnScope ["_law_pool_here", "_law_plan_here", "_law_cells", "_law_parts", "_law_at", "_law_way", "_law_title", "_law_params", "_law_slots", "_law_rows", "_law_spot", "_law_odd", "_law_many", "_law_some"] ["_law_pool_here", "_law_plan_here"] (defScope s_law_spoilt) := ⟨rfl, rfl, rfl, by decide +kernel, rfl, by decide +kernel, by decide +kernel⟩
theorem sc_law_asked : FnScope ["_law_thing", "_law_due", "_law_shown"] ["_law_thing", "_law_due"] (defScope s_law_asked) := ⟨rfl, rfl, rfl, by decide +kernel, rfl, by decide +kernel, by decide +kernel⟩
theorem sc_law_right : FnScope ["_law_pool_here", "_law_plan_here", "_law_turn", "_law_bent"] ["_law_pool_here"] (defScope s_law_right) := ⟨rfl, rfl, rfl, by decide +kernel, rfl, by decide +kernel, by decide +kernel⟩
theorem sc_law_limits_right : FnScope ["_law_trap", "_law_names", "_law_letter", "_law_some", "_law_title", "_law_far", "_law_deep", "_law_turn", "_law_thing"] [] (defScope s_law_limits_right) := ⟨rfl, rfl, rfl, by decide +kernel, rfl, by decide +kernel, by decide +kernel⟩
theorem sc_law_truths_right : FnScope ["_law_good", "_law_rows", "_law_some", "_law_k", "_law_odd", "_law_thing"] [] (defScope s_law_truths_right) := ⟨rfl, rfl, rfl, by decide +kernel, rfl, by decide +kernel, by decide +kernel⟩
theorem sc_law : FnScope ["_law_script", "_law_k"] ["_law_script"] (defScope s_law) := ⟨rfl, rfl, rfl, by decide +kernel, rfl, by decide +kernel, by decide +kernel⟩
/-- what the top has left -/
structure Txt (K : PySem.W.Frag) (mg : Str → Option Value) : Prop where
  d_is_integer : Stands K mg "is_integer" s_is_integer
  d_is_word : Stands K mg "is_word" s_is_word
  d_is_name : Stands K mg "is_name" s_is_name
  d_are_ascending : Stands K mg "are_ascending" s_are_ascending
  d_is_array : Stands K mg "is_array" s_is_array
  d_is_arrays : Stands K mg "is_arrays" s_is_arrays
  d_is_count : Stands K mg "is_count" s_is_count
  d_is_instruction : Stands K mg "is_instruction" s_is_instruction
  d_is_head : Stands K mg "is_head" s_is_head
  d_is_code : Stands K mg "is_code" s_is_code
  d_law_cell : Stands K mg "_law_cell" s_law_cell
  d_law_pool : Stands K mg "_law_pool" s_law_pool
  d_law_draw : Stands K mg "_law_draw" s_law_draw
  d_law_figure : Stands K mg "_law_figure" s_law_figure
  d_law_titles : Stands K mg "_law_titles" s_law_titles
  d_law_grow : Stands K mg "_law_grow" s_law_grow
  d_law_block : Stands K mg "_law_block" s_law_block
  d_law_sound : Stands K mg "_law_sound" s_law_sound
  d_law_plan : Stands K mg "_law_plan" s_law_plan
  d_law_whole : Stands K mg "_law_whole" s_law_whole
  d_law_is_name : Stands K mg "_law_is_name" s_law_is_name
  d_law_is_row : Stands K mg "_law_is_row" s_law_is_row
  d_law_are_parts : Stands K mg "_law_are_parts" s_law_are_parts
  d_law_is_plan : Stands K mg "_law_is_plan" s_law_is_plan
  d_law_odd_row : Stands K mg "_law_odd_row" s_law_odd_row
  d_law_bent_part : Stands K mg "_law_bent_part" s_law_bent_part
  d_law_spoilt : Stands K mg "_law_spoilt" s_law_spoilt
  d_law_asked : Stands K mg "_law_asked" s_law_asked
  d_law_right : Stands K mg "_law_right" s_law_right
  d_law_limits_right : Stands K mg "_law_limits_right" s_law_limits_right
  d_law_truths_right : Stands K mg "_law_truths_right" s_law_truths_right
  d_law : Stands K mg "law" s_law
  n_isinstance : mg "isinstance" = none
  n_int : mg "int" = none
  n_bool : mg "bool" = none
  n_str : mg "str" = none
  n_tuple : mg "tuple" = none
  n_list : mg "list" = none
  n_abs : mg "abs" = none
  n_len : mg "len" = none
  n_divmod : mg "divmod" = none
  n_range : mg "range" = none
  n_all : mg "all" = none
  n_any : mg "any" = none
  n_max : mg "max" = none
  n_min : mg "min" = none
  n_repr : mg "repr" = none
  n_zip : mg "zip" = none
  n_sorted : mg "sorted" = none
  n_set : mg "set" = none
  n_enumerate : mg "enumerate" = none
  c_MOST_ARRAYS : GlobV mg "MOST_ARRAYS" (.int (8))
  c_MOST_ELEMENTS : GlobV mg "MOST_ELEMENTS" (.int (256))
  c_MOST_FUNCTIONS : GlobV mg "MOST_FUNCTIONS" (.int (12))
  c_MOST_PARAMETERS : GlobV mg "MOST_PARAMETERS" (.int (6))
  c_MOST_LOCALS : GlobV mg "MOST_LOCALS" (.int (200))
  c_MOST_INSTRUCTIONS : GlobV mg "MOST_INSTRUCTIONS" (.int (10000))
  c_LEAST : GlobV mg "LEAST" (.int (-2147483648))
  c_GREATEST : GlobV mg "GREATEST" (.int (2147483647))
  c_LETTERS : GlobV mg "LETTERS" (.str "abcdefghijklmnopqrstuvwxyz")
  c_DIGITS : GlobV mg "DIGITS" (.str "0123456789")
  c_LONGEST_NAME : GlobV mg "LONGEST_NAME" (.int (12))
  c_KEYWORDS : GlobT K mg "KEYWORDS" [.str "array", .str "block", .str "break", .str "continue", .str "drop", .str "else", .str "func", .str "if", .str "loop", .str "put", .str "rem", .str "return", .str "trap"]
  c_BARE : GlobT K mg "BARE" [.str "dup", .str "swap", .str "pop", .str "put", .str "return", .str "trap", .str "neg", .str "not", .str "add", .str "sub", .str "mul", .str "div", .str "rem", .str "and", .str "or", .str "xor", .str "shl", .str "shr", .str "lt", .str "le", .str "gt", .str "ge", .str "eq", .str "ne"]
  c_LOCALS : GlobT K mg "LOCALS" [.str "load", .str "store"]
  c_ARRAYS : GlobT K mg "ARRAYS" [.str "get", .str "set"]
  c_JUMPS : GlobT K mg "JUMPS" [.str "jump", .str "jumpif"]
end Cb

end

section
set_option maxRecDepth 100000
set_option maxHeartbeats 4000000
set_option autoImplicit false
/-! Gg, part A: things that change (lists, dicts, instances) as a store of plain Lean values; the relation to the heap. -/
namespace Cb
open PySem PySem.Spec PyProof.Rows L2
/-- a value: a datum; a thing of the store; a written tuple of the module; a plain tuple of keys -/
inductive GV where
  | d (x : PyData) | r (i : Nat) | c (ds : List PyData) | t (ks : List Key)
/-- a thing of the store -/
inductive GO where
  | lst (vs : List GV) | dk (kvs : List (Key × GV)) | dt (kvs : List (List Key × GV)) | ins (C : Nat) (fs : List (Str × GV))
structure GS where
  sl : List (Option GV)
  st : List GO
/-- the classes' addresses -/
class GCls where
  cl : Nat → Addr
/-- what data are made of -/
def datO : HO → Bool
  | .lst _ => true | .dK _ => true | .frz _ _ => true | _ => false
/-- what stands in the store -/
def stoO : HO → Bool
  | .lst _ => true | .dK _ => true | .dT _ => true | .ins _ _ _ => true | _ => false
mutual
theorem DA.stayD {H H' : Hp} (s : ∀ a o, H a = some o → datO o = true → H' a = some o) : ∀ {v : V} {d : PyData}, DA H v d → DA H' v d
  | _, _, .non => .non
  | _, _, .bl b => .bl b
  | _, _, .int i => .int i
  | _, _, .str x => .str x
  | _, _, .lst ha hd => .lst (s _ _ ha rfl) (DAll.stayD s hd)
  | _, _, .tup ha ht hd => .tup (s _ _ ha (by
      obtain ⟨o, rfl, _⟩ := ht
      rfl)) ht (DAll.stayD s hd)
  | _, _, .dk ha hd => .dk (s _ _ ha rfl) (DAll.stayD s hd)
theorem DAll.stayD {H H' : Hp} (s : ∀ a o, H a = some o → datO o = true → H' a = some o) : ∀ {vs : List V} {ds : List PyData}, DAll H vs ds → DAll H' vs ds
  | _, _, .nil => .nil
  | _, _, .cons h1 h2 => .cons (DA.stayD s h1) (DAll.stayD s h2)
end
/-- a value stands -/
def VR (K : PySem.W.Frag) (as : List Addr) (H : Hp) (v : V) : GV → Prop
  | .d x => DA (Hid as H) v x
  | .r i => ∃ a, as[i]? = some a ∧ v = .ref a
  | .c ds => ∃ a ys, v = .ref a ∧ (∀ H', SqT K H' a ys) ∧ ∀ H', DAll H' ys ds
  | .t ks => ∃ a, v = .ref a ∧ H a = some (.tup (ks.map kV))
inductive AllG {α β : Type} (R : α → β → Prop) : List α → List β → Prop
  | nil : AllG R [] []
  | cons {a : α} {b : β} {l : List α} {m : List β} : R a b → AllG R l m → AllG R (a :: l) (b :: m)
abbrev VRs (K : PySem.W.Frag) (as : List Addr) (H : Hp) : List V → List GV → Prop := AllG (VR K as H)
/-- entries: the same key, a value that stands -/
abbrev ER {κ : Type} (K : PySem.W.Frag) (as : List Addr) (H : Hp) (p : κ × V) (q : κ × GV) : Prop := p.1 = q.1 ∧ VR K as H p.2 q.2
theorem AllG.mono {α β : Type} {R R' : α → β → Prop} (h : ∀ a b, R a b → R' a b) : ∀ {l : List α} {m : List β}, AllG R l m → AllG R' l m
  | _, _, .nil => .nil
  | _, _, .cons h1 t => .cons (h _ _ h1) (AllG.mono h t)
theorem AllG.length {α β : Type} {R : α → β → Prop} : ∀ {l : List α} {m : List β}, AllG R l m → l.length = m.length
  | _, _, .nil => rfl
  | _, _, .cons _ t => congrArg (· + 1) (AllG.length t)
theorem AllG.get {α β : Type} {R : α → β → Prop} : ∀ {l : List α} {m : List β} {i : Nat} {b : β}, AllG R l m → m[i]? = some b → ∃ a, l[i]? = some a ∧ R a b
  | _, _, 0, b, .cons h t, e => by
    cases e
    exact ⟨_, rfl, h⟩
  | _, _, i + 1, b, .cons h t, e => AllG.get (i := i) t e
theorem AllG.app {α β : Type} {R : α → β → Prop} : ∀ {l : List α} {m : List β} {l2 : List α} {m2 : List β}, AllG R l m → AllG R l2 m2 → AllG R (l ++ l2) (m ++ m2)
  | _, _, _, _, .nil, h => h
  | _, _, _, _, .cons h1 t, h => .cons h1 (AllG.app t h)
theorem AllG.take {α β : Type} {R : α → β → Prop} : ∀ {l : List α} {m : List β} (n : Nat), AllG R l m → AllG R (l.take n) (m.take n)
  | _, _, 0, _ => .nil
  | _, _, n + 1, .nil => .nil
  | _, _, n + 1, .cons h t => .cons h (AllG.take n t)
theorem AllG.drop {α β : Type} {R : α → β → Prop} : ∀ {l : List α} {m : List β} (n : Nat), AllG R l m → AllG R (l.drop n) (m.drop n)
  | _, _, 0, h => h
  | _, _, n + 1, .nil => .nil
  | _, _, n + 1, .cons h t => AllG.drop n t
theorem AllG.set {α β : Type} {R : α → β → Prop} {a : α} {b : β} (hr : R a b) : ∀ {l : List α} {m : List β} (n : Nat), AllG R l m → AllG R (l.set n a) (m.set n b)
  | _, _, _, .nil => .nil
  | _, _, 0, .cons h t => .cons hr t
  | _, _, n + 1, .cons h t => .cons h (AllG.set hr n t)
theorem AllG.rep {α β : Type} {R : α → β → Prop} {l : List α} {m : List β} (h : AllG R l m) : ∀ n : Nat, AllG R (List.replicate n l).flatten (List.replicate n m).flatten
  | 0 => .nil
  | n + 1 => by
    rw [List.replicate_succ, List.replicate_succ, List.flatten_cons, List.flatten_cons]
    exact h.app (AllG.rep h n)
def OO [GC : GCls] (K : PySem.W.Frag) (as : List Addr) (H : Hp) (a : Addr) : GO → Prop
  | .lst vs => ∃ ys, H a = some (.lst ys) ∧ VRs K as H ys vs
  | .dk kvs => ∃ ks, H a = some (.dK ks) ∧ AllG (ER K as H) ks kvs
  | .dt kvs => ∃ ks, H a = some (.dT ks) ∧ AllG (ER K as H) ks kvs
  | .ins C fs => ∃ dx ps, H a = some (.ins (GC.cl C) dx ps) ∧ AllG (ER K as H) ps fs
theorem OO.kind [GC : GCls] {K : PySem.W.Frag} {as : List Addr} {H : Hp} {a : Addr} {o : GO} (h : OO K as H a o) : ∃ u, H a = some u ∧ stoO u = true := by
  cases o with
  | lst vs => obtain ⟨ys, e, _⟩ := h; exact ⟨_, e, rfl⟩
  | dk vs => obtain ⟨ys, e, _⟩ := h; exact ⟨_, e, rfl⟩
  | dt vs => obtain ⟨ys, e, _⟩ := h; exact ⟨_, e, rfl⟩
  | ins C vs => obtain ⟨dx, ys, e, _⟩ := h; exact ⟨_, e, rfl⟩
structure StOk [GC : GCls] (K : PySem.W.Frag) (as : List Addr) (H : Hp) (st : List GO) : Prop where
  nd : as.Nodup
  len : as.length = st.length
  ob : ∀ (i : Nat) (o : GO), st[i]? = some o → ∃ a, as[i]? = some a ∧ OO K as H a o
theorem StOk.kind [GC : GCls] {K : PySem.W.Frag} {as : List Addr} {H : Hp} {st : List GO} (h : StOk K as H st) {a : Addr} (m : a ∈ as) : ∃ u, H a = some u ∧ stoO u = true := by
  obtain ⟨i, e⟩ := List.mem_iff_getElem?.mp m
  have hi : i < st.length := by
    rw [← h.len]
    exact (List.getElem?_eq_some_iff.mp e).1
  obtain ⟨b, e2, hb⟩ := h.ob i _ (List.getElem?_eq_getElem hi)
  rw [e] at e2
  cases e2
  exact hb.kind
/-- from heap to heap: the store grows, all else stays -/
structure Tg (as : List Addr) (H : Hp) (as' : List Addr) (H' : Hp) : Prop where
  pre : ∃ l, as' = as ++ l
  fr : ∀ a, a ∈ as' → a ∉ as → H a = none
  out : ∀ b o, b ∉ as → H b = some o → H' b = some o
section
variable {K : PySem.W.Frag} {as as1 as2 : List Addr} {H H1 H2 : Hp}
theorem Tg.refl : Tg as H as H := ⟨⟨[], (List.append_nil _).symm⟩, fun a m n => absurd m n, fun _ _ _ h => h⟩
theorem Tg.sub (t : Tg as H as1 H1) {a : Addr} (m : a ∈ as) : a ∈ as1 := by
  obtain ⟨l, rfl⟩ := t.pre
  exact List.mem_append_left _ m
theorem Tg.get (t : Tg as H as1 H1) {i : Nat} {a : Addr} (e : as[i]? = some a) : as1[i]? = some a := by
  obtain ⟨l, rfl⟩ := t.pre
  rw [List.getElem?_append_left (List.getElem?_eq_some_iff.mp e).1]
  exact e
theorem Tg.trans (t : Tg as H as1 H1) (u : Tg as1 H1 as2 H2) : Tg as H as2 H2 := by
  refine ⟨?_, fun a m n => ?_, fun b o n h => ?_⟩
  · obtain ⟨l, rfl⟩ := t.pre
    obtain ⟨m, rfl⟩ := u.pre
    exact ⟨l ++ m, List.append_assoc _ _ _⟩
  · by_cases c : a ∈ as1
    · exact t.fr a c n
    · have h := u.fr a m c
      cases e : H a with
      | none => rfl
      | some o =>
        rw [t.out a o n e] at h
        cases h
  · refine u.out b o (fun m => ?_) (t.out b o n h)
    have := t.fr b m n
    rw [h] at this
    cases this
theorem Tg.grow (s : L2.Same H H1) : Tg as H as H1 := ⟨⟨[], (List.append_nil _).symm⟩, fun a m n => absurd m n, fun b o _ h => s b o h⟩
theorem Tg.new {p : Addr} (s : L2.Same H H1) (n : H p = none) : Tg as H (as ++ [p]) H1 := ⟨⟨[p], rfl⟩, fun a m c => by
  rcases List.mem_append.mp m with m | m
  · exact absurd m c
  · rw [List.mem_singleton.mp m]
    exact n, fun b o _ h => s b o h⟩
theorem Tg.upd {p : Addr} {o : HO} (m : p ∈ as) : Tg as H as (L2.upd H p o) := ⟨⟨[], (List.append_nil _).symm⟩, fun a m n => absurd m n, fun b o n h => by
  rw [upd_ne (fun z => n (by rw [z]; exact m))]
  exact h⟩
/-- data stay -/
theorem DA.keepG {v : V} {x : PyData} (hk : ∀ a ∈ as, ∃ u, H a = some u ∧ stoO u = true) (t : Tg as H as1 H1) (h : DA (Hid as H) v x) : DA (Hid as1 H1) v x := by
  refine DA.stayD (fun a o e d => ?_) h
  obtain ⟨h1, h2⟩ := hid_at e
  have na : a ∉ as := fun m => by
    by_cases c : hidable o = true
    · exact h2 c m
    · obtain ⟨u, e1, e2⟩ := hk a m
      rw [h1] at e1
      cases e1
      cases o <;> first | (exact absurd rfl c) | (cases e2; done) | (cases d; done)
  refine hid_of (t.out a o na h1) (fun _ m => ?_) (by cases o <;> first | rfl | cases d)
  rw [t.fr a m na] at h1
  cases h1
theorem VR.keep {v : V} {g : GV} (hk : ∀ a ∈ as, ∃ u, H a = some u ∧ stoO u = true) (t : Tg as H as1 H1) (h : VR K as H v g) : VR K as1 H1 v g := by
  cases g with
  | d x => exact DA.keepG hk t h
  | r i =>
    obtain ⟨a, e, rfl⟩ := h
    exact ⟨a, t.get e, rfl⟩
  | c ds => exact h
  | t ks =>
    obtain ⟨a, rfl, e⟩ := h
    refine ⟨a, rfl, t.out a _ (fun m => ?_) e⟩
    obtain ⟨u, e1, e2⟩ := hk a m
    rw [e] at e1
    cases e1
    cases e2
theorem ER.keep {κ : Type} {p : κ × V} {q : κ × GV} (hk : ∀ a ∈ as, ∃ u, H a = some u ∧ stoO u = true) (t : Tg as H as1 H1) (h : ER K as H p q) : ER K as1 H1 p q := ⟨h.1, h.2.keep hk t⟩
/-- a thing whose place stays -/
theorem OO.keep [GC : GCls] {a : Addr} {o : GO} (hk : ∀ a ∈ as, ∃ u, H a = some u ∧ stoO u = true) (t : Tg as H as1 H1) (e : H1 a = H a) (h : OO K as H a o) : OO K as1 H1 a o := by
  cases o with
  | lst vs =>
    obtain ⟨ys, e1, h1⟩ := h
    exact ⟨ys, e.trans e1, h1.mono fun _ _ h => h.keep hk t⟩
  | dk vs =>
    obtain ⟨ys, e1, h1⟩ := h
    exact ⟨ys, e.trans e1, h1.mono fun _ _ h => h.keep hk t⟩
  | dt vs =>
    obtain ⟨ys, e1, h1⟩ := h
    exact ⟨ys, e.trans e1, h1.mono fun _ _ h => h.keep hk t⟩
  | ins C vs =>
    obtain ⟨dx, ys, e1, h1⟩ := h
    exact ⟨dx, ys, e.trans e1, h1.mono fun _ _ h => h.keep hk t⟩
section
variable [GC : GCls] {st : List GO}
theorem StOk.grow (h : StOk K as H st) (s : L2.Same H H1) : StOk K as H1 st := ⟨h.nd, h.len, fun i o e => by
  obtain ⟨a, e1, h1⟩ := h.ob i o e
  obtain ⟨u, e2, _⟩ := h1.kind
  exact ⟨a, e1, h1.keep (fun a m => h.kind m) (Tg.grow s) (by rw [e2]; exact s _ _ e2)⟩⟩
/-- a new thing -/
theorem StOk.new {p : Addr} {o : GO} (h : StOk K as H st) (s : L2.Same H H1) (n : H p = none) (ho : OO K (as ++ [p]) H1 p o) : StOk K (as ++ [p]) H1 (st ++ [o]) := by
  have np : p ∉ as := fun m => by
    obtain ⟨u, e, _⟩ := h.kind m
    rw [n] at e
    cases e
  refine ⟨?_, by rw [List.length_append, List.length_append, h.len]; rfl, fun i u e => ?_⟩
  · refine List.nodup_append.mpr ⟨h.nd, by simp, fun a ha b hb z => ?_⟩
    rw [List.mem_singleton] at hb
    rw [z, hb] at ha
    exact np ha
  · by_cases c : i < st.length
    · rw [List.getElem?_append_left c] at e
      obtain ⟨a, e1, h1⟩ := h.ob i u e
      obtain ⟨w, e2, _⟩ := h1.kind
      refine ⟨a, by rw [List.getElem?_append_left (by rw [h.len]; exact c)]; exact e1, h1.keep (fun a m => h.kind m) (Tg.new s n) (by rw [e2]; exact s _ _ e2)⟩
    · have hi : i = st.length := by
        have := (List.getElem?_eq_some_iff.mp e).1
        rw [List.length_append] at this
        have : i < st.length + 1 := this
        omega
      subst hi
      rw [List.getElem?_append_right (Nat.le_refl _), Nat.sub_self] at e
      cases e
      refine ⟨p, ?_, ho⟩
      rw [List.getElem?_append_right (by rw [h.len]; exact Nat.le_refl _), h.len, Nat.sub_self]
      rfl
/-- a thing changes -/
theorem StOk.set {i : Nat} {a : Addr} {o' : GO} {u : HO} (h : StOk K as H st) (e : as[i]? = some a) (ho : OO K as (L2.upd H a u) a o') : StOk K as (L2.upd H a u) (st.set i o') := by
  have hi : i < st.length := by
    rw [← h.len]
    exact (List.getElem?_eq_some_iff.mp e).1
  have ma : a ∈ as := List.mem_of_getElem? e
  refine ⟨h.nd, by rw [List.length_set]; exact h.len, fun j v ej => ?_⟩
  rcases set_get ej with ⟨rfl, rfl⟩ | ⟨n, ej⟩
  · exact ⟨a, e, ho⟩
  · obtain ⟨b, e1, h1⟩ := h.ob j v ej
    have hb : b ≠ a := fun z => by
      subst z
      exact n ((List.getElem?_inj (List.getElem?_eq_some_iff.mp e1).1 h.nd).mp (e1.trans e.symm))
    exact ⟨b, e1, h1.keep (fun a m => h.kind m) (Tg.upd ma) (upd_ne hb)⟩
end
end
/-- a def's entry -/
structure SitG where
  a0 : List Addr
  H0 : Hp
structure RG [GC : GCls] (K : PySem.W.Frag) (S : SitG) (as : List Addr) (σ : L2.St) (H : Hp) (g : GS) : Prop where
  st : StOk K as H g.st
  tr : Tg S.a0 S.H0 as H
  len : σ.length = g.sl.length
  sl : ∀ (i : Nat) (x : GV), g.sl[i]? = some (some x) → ∃ v, σ[i]? = some (some v) ∧ VR K as H v x
section
variable [GC : GCls] {K : PySem.W.Frag} {S : SitG} {as as1 : List Addr} {σ : L2.St} {H H1 : Hp} {g : GS}
theorem RG.kind (R : RG K S as σ H g) : ∀ a ∈ as, ∃ u, H a = some u ∧ stoO u = true := fun a m => R.st.kind m
/-- the heap moves -/
theorem RG.move {st' : List GO} (R : RG K S as σ H g) (t : Tg as H as1 H1) (h : StOk K as1 H1 st') : RG K S as1 σ H1 { g with st := st' } := ⟨h, R.tr.trans t, R.len, fun i x e => by
  obtain ⟨v, e1, h1⟩ := R.sl i x e
  exact ⟨v, e1, h1.keep R.kind t⟩⟩
theorem RG.grow (R : RG K S as σ H g) (s : L2.Same H H1) : RG K S as σ H1 g := R.move (Tg.grow s) (R.st.grow s)
/-- a slot takes a value -/
theorem RG.put {i : Nat} {v : V} {x : GV} (R : RG K S as σ H g) (h : VR K as H v x) : RG K S as (σ.set i (some v)) H { g with sl := g.sl.set i (some x) } := ⟨R.st, R.tr, by rw [List.length_set, List.length_set]; exact R.len, fun j y e => by
  have e : (g.sl.set i (some x))[j]? = some (some y) := e
  have hl := (List.getElem?_eq_some_iff.mp e).1
  rw [List.length_set] at hl
  rcases set_get e with ⟨rfl, e2⟩ | ⟨n, e⟩
  · have e3 := Option.some.inj e2
    subst e3
    refine ⟨v, ?_, h⟩
    have hi : j < g.sl.length := hl
    exact List.getElem?_set_self (by rw [R.len]; exact hi)
  · obtain ⟨u, e1, h1⟩ := R.sl j y e
    exact ⟨u, by rw [List.getElem?_set_ne (Ne.symm n)]; exact e1, h1⟩⟩
end
end Cb

end

section
set_option maxRecDepth 100000
set_option maxHeartbeats 4000000
set_option autoImplicit false
/-! Gg, part B: expressions as functions of slots and store. -/
namespace Cb
open PySem PySem.Spec PyProof.Rows L2
abbrev GM (α : Type) := GS → Option (α × GS)
def gbind {α β : Type} (F : GM α) (G : α → GM β) : GM β := fun g => match F g with
  | some (a, g') => G a g'
  | none => none
def gpure {α : Type} (a : α) : GM α := fun g => some (a, g)
section
variable [GC : GCls]
/-! ### what is seen of a value -/
def datsG : List GV → Option (List PyData)
  | [] => some []
  | .d x :: r => (datsG r).map fun xs => x :: xs
  | _ => none
section
variable {K : PySem.W.Frag} {S : SitG} {as : List Addr} {σ : L2.St} {H H' : Hp} {g : GS} {v : V}
/-- a new thing is laid -/
theorem RG.new {p : Addr} {o : GO} (R : RG K S as σ H g) (s : L2.Same H H') (n : H p = none) (ho : OO K (as ++ [p]) H' p o) : RG K S (as ++ [p]) σ H' { g with st := g.st ++ [o] } ∧ Tg as H (as ++ [p]) H' ∧ VR K (as ++ [p]) H' (.ref p) (.r g.st.length) :=
  ⟨R.move (Tg.new s n) (R.st.new s n ho), Tg.new s n, p, by rw [← R.st.len, List.getElem?_append_right (Nat.le_refl _), Nat.sub_self]; rfl, rfl⟩
end
section
variable {X : Cx} {e e1 e2 e3 : Expr} {es : List Expr} {F G F3 : GM GV} {A : GM (List GV)} {B B2 : GM Bool} {pos : Pos}
/-! ### names, constants -/
/-! ### operations -/
/-! ### argument lists, displays -/
def gCons (F : GM GV) (A : GM (List GV)) : GM (List GV) := gbind F fun x => gbind A fun xs => gpure (x :: xs)
/-- a tuple of data -/
def gTup (A : GM (List GV)) : GM GV := gbind A fun rs => fun g => (datsG rs).bind fun ds => if ds.length ≤ 4000000 then some (.d (.tuple ds), g) else none
/-! ### calls of what is built in -/
end
end
end Cb

end

section
set_option maxRecDepth 100000
set_option maxHeartbeats 4000000
set_option autoImplicit false
/-! Gg, part C: tests, truths as values, slices. -/
namespace Cb
open PySem PySem.Spec PyProof.Rows L2
end Cb

end

section
set_option maxRecDepth 100000
set_option maxHeartbeats 4000000
set_option autoImplicit false
/-! Gg, part D: statements, attributes. -/
namespace Cb
open PySem PySem.Spec PyProof.Rows L2
/-- how a block ends -/
inductive OutG where
  | nx (g : GS) | rt (r : GV) (g : GS) | bk (g : GS) | ct (g : GS)
abbrev GB := GS → Option OutG
section
variable [GC : GCls]
def FinG (K : PySem.W.Frag) (S : SitG) (as : List Addr) (H : Hp) (D : Ends) : OutG → Prop
  | .nx g' => ∀ as' σ' H', RG K S as' σ' H' g' → Tg as H as' H' → D.nx σ' H'
  | .bk g' => ∀ as' σ' H', RG K S as' σ' H' g' → Tg as H as' H' → D.bk σ' H'
  | .ct g' => ∀ as' σ' H', RG K S as' σ' H' g' → Tg as H as' H' → D.ct σ' H'
  | .rt r g' => ∀ as' σ' v H', RG K S as' σ' H' g' → Tg as H as' H' → VR K as' H' v r → D.rt v H'
theorem FinG.later {K : PySem.W.Frag} {S : SitG} {as as1 : List Addr} {H H1 : Hp} {D : Ends} {o : OutG} (h : FinG K S as H D o) (s : Tg as H as1 H1) : FinG K S as1 H1 D o := by
  cases o with
  | nx g => exact fun as' σ' H' R v => h as' σ' H' R (s.trans v)
  | bk g => exact fun as' σ' H' R v => h as' σ' H' R (s.trans v)
  | ct g => exact fun as' σ' H' R v => h as' σ' H' R (s.trans v)
  | rt r g => exact fun as' σ' w H' R v => h as' σ' w H' R (s.trans v)
end
end Cb

end

section
set_option maxRecDepth 100000
set_option maxHeartbeats 4000000
set_option autoImplicit false
/-! Gg, part E: attributes, lists and dicts of the store. -/
namespace Cb
open PySem PySem.Spec PyProof.Rows L2
section
variable [GC : GCls]
section
variable {K : PySem.W.Frag} {S : SitG} {as : List Addr} {σ : L2.St} {H : Hp} {g : GS}
/-- a thing of the store changes -/
theorem RG.upd {i : Nat} {a : Addr} {u : HO} {o' : GO} (R : RG K S as σ H g) (e : as[i]? = some a) (ho : OO K as (L2.upd H a u) a o') : RG K S as σ (L2.upd H a u) { g with st := g.st.set i o' } ∧ Tg as H as (L2.upd H a u) :=
  ⟨R.move (Tg.upd (List.mem_of_getElem? e)) (R.st.set e ho), Tg.upd (List.mem_of_getElem? e)⟩
theorem RG.at {i : Nat} {a : Addr} {o : GO} (R : RG K S as σ H g) (e : as[i]? = some a) (eo : g.st[i]? = some o) : OO K as H a o := by
  obtain ⟨b, eb, h⟩ := R.st.ob i o eo
  rw [e] at eb
  cases eb
  exact h
theorem VR.upd {a : Addr} {u : HO} {v : V} {x : GV} (R : RG K S as σ H g) (m : a ∈ as) (h : VR K as H v x) : VR K as (L2.upd H a u) v x := h.keep R.kind (Tg.upd m)
theorem VRs.upd {a : Addr} {u : HO} {vs : List V} {xs : List GV} (R : RG K S as σ H g) (m : a ∈ as) (h : VRs K as H vs xs) : VRs K as (L2.upd H a u) vs xs := h.mono fun _ _ k => k.keep R.kind (Tg.upd m)
theorem ERs.upd {κ : Type} {a : Addr} {u : HO} {vs : List (κ × V)} {xs : List (κ × GV)} (R : RG K S as σ H g) (m : a ∈ as) (h : AllG (ER K as H) vs xs) : AllG (ER K as (L2.upd H a u)) vs xs := h.mono fun _ _ k => ER.keep R.kind (Tg.upd m) k
end
end
end Cb

end

section
set_option maxRecDepth 100000
set_option maxHeartbeats 4000000
set_option autoImplicit false
/-! Gg, part F: targets, loops, comprehensions. -/
namespace Cb
open PySem PySem.Spec PyProof.Rows L2
section
variable [GC : GCls]
section
variable {X : Cx} {tg e e1 e2 : Expr} {tgs : List Expr} {ts ts2 : List Nat} {pos : Pos} {st : Stmt} {sts : List Stmt}
/-! ### what a loop walks -/
theorem DAll.keepG {as as1 : List Addr} {H H1 : Hp} (hk : ∀ a ∈ as, ∃ u, H a = some u ∧ stoO u = true) (t : Tg as H as1 H1) : ∀ {vs : List V} {ds : List PyData}, DAll (Hid as H) vs ds → DAll (Hid as1 H1) vs ds
  | _, _, .nil => .nil
  | _, _, .cons h r => .cons (DA.keepG hk t h) (DAll.keepG hk t r)
/-! ### for -/
end
end
end Cb

end

section
set_option maxRecDepth 100000
set_option maxHeartbeats 4000000
set_option autoImplicit false
/-! Gg, part G: comprehensions that make lists and dicts. -/
namespace Cb
open PySem PySem.Spec PyProof.Rows L2
end Cb

end

section
set_option maxRecDepth 100000
set_option maxHeartbeats 4000000
set_option autoImplicit false
/-! Gg, part H: lists and dicts of the store: items, append, pop, length, membership, stores. -/
namespace Cb
open PySem PySem.Spec PyProof.Rows L2
end Cb

end

section
set_option maxRecDepth 100000
set_option maxHeartbeats 4000000
set_option autoImplicit false
/-! Gg, part I: promises of defs and methods over the store; calls; instances made; to and from layer Pf. -/
namespace Cb
open PySem PySem.Spec PyProof.Rows L2
section
variable [GC : GCls]
section
variable {P : Program} {w : World} {K : PySem.W.Frag} {mg : Str → Option Value} {base : Heap} {k np : Nat} {x : Str} {st : Stmt} {N ps : List Str} {B : GB}
/-- a method by its promise -/
def GivesMG (P : Program) (w : World) (K : PySem.W.Frag) (mg : Str → Option Value) (base : Heap) (k : Nat) (C : Addr) (m : Str) (sp : Sp) : Prop :=
  ∃ f fd ps, Meth K C m f ∧ FnOk P w K mg base CX0 k f fd ps sp ∧ Binds K fd ps []
theorem GivesMG.imp {C : Addr} {m : Str} {sp sp' : Sp} (F : GivesMG P w K mg base k C m sp) (h : ∀ vs H Q E, sp' vs H Q E → sp vs H Q E) : GivesMG P w K mg base k C m sp' := by
  obtain ⟨f, fd, ps, h1, h2, h3⟩ := F
  exact ⟨f, fd, ps, h1, h2.imp h, h3⟩
end
/-! ### calls -/
/-! ### a def of layer Pf called from here -/
/-! ### a def of this layer called from layer Pf -/
end
end Cb

end

section
set_option maxRecDepth 100000
set_option maxHeartbeats 4000000
set_option autoImplicit false
/-! Gg, part J: match of a text against written texts. -/
namespace Cb
open PySem PySem.Spec PyProof.Rows L2
end Cb

end

section
set_option maxRecDepth 100000
set_option maxHeartbeats 4000000
set_option autoImplicit false
/-! Gg, part K: {(..): v}; a written dict of the module (texts to ints) and its get; what is never reached. -/
namespace Cb
open PySem PySem.Spec PyProof.Rows L2
/-! ### a written dict of the module -/
def lookS (kvs : List (Str × Int)) (z : Str) : Option Int := (kvs.find? fun p => decide (p.1 = z)).map (·.2)
end Cb

end

section
set_option maxRecDepth 100000
set_option maxHeartbeats 4000000
set_option autoImplicit false
/-! Gg, part L: the readings of part K, over both layers. -/
namespace Cb
open PySem PySem.Spec PyProof.Rows L2
end Cb

end

section
set_option maxRecDepth 100000
set_option maxHeartbeats 4000000
set_option autoImplicit false
/-! Gg, part M: sorted({a, b}) of two ints. -/
namespace Cb
open PySem PySem.Spec PyProof.Rows L2
end Cb
namespace Cb
open PySem PySem.Spec PyProof.Rows L2
/-! ### expressions that change nothing -/
end Cb
namespace Cb
open PySem PySem.Spec PyProof.Rows L2
end Cb

end

section
set_option maxRecDepth 100000
set_option maxHeartbeats 4000000
set_option autoImplicit false
/-! Gg, part N: a def with keyword-only defaults. -/
namespace Cb
open PySem PySem.Spec PyProof.Rows L2
/-- .. and keeps a promise over all its parameters -/
def GivesD (P : Program) (w : World) (K : PySem.W.Frag) (mg : Str → Option Value) (base : Heap) (k : Nat) (x : Str) (st : Stmt) (ps : List Str) (kws : List (Str × V)) (sp : Sp) : Prop :=
  ∃ f fd, mg x = some (.ref f) ∧ FunD K x x (defArgs st) (defBody st) (defScope st) [] kws f fd ∧ FnOk P w K mg base CX0 k f fd ps sp
section
variable {P : Program} {w : World} {K : PySem.W.Frag} {mg : Str → Option Value} {base : Heap} {k np : Nat} {x : Str} {st : Stmt} {N ps : List Str} {kws : List (Str × V)} {sp sp' : Sp}
theorem GivesD.imp (F : GivesD P w K mg base k x st ps kws sp) (h : ∀ vs H Q E, sp' vs H Q E → sp vs H Q E) : GivesD P w K mg base k x st ps kws sp' := by
  obtain ⟨f, fd, h1, h2, h3⟩ := F
  exact ⟨f, fd, h1, h2, h3.imp h⟩
end
/-! ### f(a, .., k = v) -/
section
variable {X : Cx} {k n m : Nat} {E : XK} {x : Str} {st : Stmt} {ps ks : List Str} {kwd : List (Str × V)} {D : FD} {p pos : Pos} {e : Expr} {es : List Expr} {kws : List Keyword} {A B : FM (List RV)}
theorem AllRV.app {K : PySem.W.Frag} {Hs : Hp} {M : List Addr} {σ : L2.St} {H : Hp} {ρ : List SV} : ∀ {vs ws : List V} {rs ss : List RV}, AllRV K Hs M σ H ρ vs rs → AllRV K Hs M σ H ρ ws ss → AllRV K Hs M σ H ρ (vs ++ ws) (rs ++ ss)
  | _, _, _, _, .nil, h => h
  | _, _, _, _, .cons h t, h2 => .cons h (AllRV.app t h2)
theorem AllRV.len {K : PySem.W.Frag} {Hs : Hp} {M : List Addr} {σ : L2.St} {H : Hp} {ρ : List SV} : ∀ {vs : List V} {rs : List RV}, AllRV K Hs M σ H ρ vs rs → vs.length = rs.length
  | _, _, .nil => rfl
  | _, _, .cons _ t => congrArg (· + 1) (AllRV.len t)
end
end Cb

end

section
set_option maxRecDepth 100000
set_option maxHeartbeats 4000000
set_option autoImplicit false
/-! Hd, part A: a law's facts by a Hook over one kernel run of the program's top (in the place of k_head: quicker, and hardly any size). -/
namespace Cb
open PySem PySem.Spec PyProof.Rows L2
theorem fun_of_D {K : PySem.W.Frag} {x q : Str} {st : Stmt} {kws : List (Str × V)} {f : Addr} {fd : FuncData} (F : FunD K x q (defArgs st) (defBody st) (defScope st) [] kws f fd) : Fun K x q st f fd := by
  obtain ⟨oc, od, dV, kV, doc, pm, an, cdv, ct, osl, rfl, l, c, hd, hk⟩ := F.ex
  rcases hd with ⟨_, rfl⟩ | ⟨h, _⟩
  · exact fun_mk l c F.kp
  · exact absurd rfl h
def dSk (x : Str) (st : Stmt) (kwd : List (Str × He.Dv)) : He.DefD := ⟨(x, none), x, x, defArgs st, defBody st, defScope st, [], kwd⟩
/-- the entries of a written dict from texts to ints -/
def KV : List DictEntry → List (Str × Int) → Prop
  | [], [] => True
  | e :: r, q :: l => ((∃ t, e.key = .str q.1 t) ∧ ∃ t, e.val = .int q.2 t) ∧ KV r l
  | _, _ => False
theorem KV.find (z : Str) : ∀ {es : List DictEntry} {kvs : List (Str × Int)}, KV es kvs → (∃ e i t, es.find? (·.key.isStr z) = some e ∧ e.val = .int i t ∧ lookS kvs z = some i) ∨ (es.find? (·.key.isStr z) = none ∧ es.any (·.refKey) = false ∧ lookS kvs z = none)
  | [], [], _ => .inr ⟨rfl, rfl, rfl⟩
  | [], _ :: _, h => h.elim
  | e :: r, [], h => h.elim
  | e :: r, q :: l, h => by
    obtain ⟨⟨⟨t, h1⟩, ⟨t2, h4⟩⟩, h3⟩ := h
    by_cases c : q.1 = z
    · refine .inl ⟨e, q.2, t2, ?_, h4, ?_⟩
      · rw [List.find?_cons_of_pos (by rw [h1, PySem.W.isStr_of]; subst c; exact decide_eq_true rfl)]
      · unfold lookS
        rw [List.find?_cons_of_pos (by exact decide_eq_true c)]
        rfl
    · have hk : ¬ (e.key.isStr z = true) := by
        rw [h1, PySem.W.isStr_of]
        exact fun w => c (of_decide_eq_true w)
      have hl : lookS (q :: l) z = lookS l z := by
        unfold lookS
        rw [List.find?_cons_of_neg (by rw [decide_eq_true_iff]; exact c)]
      rw [List.find?_cons_of_neg (p := fun x : DictEntry => x.key.isStr z) hk, hl]
      rcases KV.find z h3 with h5 | ⟨h5, h6, h7⟩
      · exact .inl h5
      · refine .inr ⟨h5, ?_, h7⟩
        rw [List.any_cons, h6]
        have : e.refKey = false := by
          unfold DictEntry.refKey
          rw [h1]
        rw [this]
        rfl
def exAll (l : List (PySem.W.Frag → Bool)) (K : PySem.W.Frag) : Bool := l.all fun f => f K
section
variable {fa : List He.Fa} {fn : List He.DefD} {ts : List He.Tab} {tf : List He.Defn} {exs : List (PySem.W.Frag → Bool)} {w : World} {h : Heap} {K : PySem.W.Frag} {mg : Str → Option Value} {x y C m q : Str} {st : Stmt}
theorem hx_ex (c : He.SaysX fa fn ts tf (exAll exs) w h K) (i : Nat) {f : PySem.W.Frag → Bool} (e : exs[i]? = some f) : f K = true := List.all_eq_true.mp c.more f (List.mem_of_getElem? e)
theorem hx_glo (c : He.SaysX fa fn ts tf (exAll exs) w h K) (X : K.In h) (G : h.Ns mainGlobals mg) (j : Nat) (e : fa[j]? = some (.glo x)) : mg x = some (.ref (He.ga K x)) := He.glo_ok X G (c.t.d.fact j e)
theorem hx_free (c : He.SaysX fa fn ts tf (exAll exs) w h K) (X : K.In h) (G : h.Ns mainGlobals mg) (j : Nat) (e : fa[j]? = some (.free x)) : mg x = none := He.free_ok X G (c.t.d.fact j e)
theorem hx_st (c : He.SaysX fa fn ts tf (exAll exs) w h K) (X : K.In h) (G : h.Ns mainGlobals mg) (i j : Nat) {kwd : List (Str × He.Dv)} (e1 : fn[i]? = some (dSk x st kwd)) (e2 : fa[j]? = some (.glo x)) : Stands K mg x st := by
  obtain ⟨fd, F⟩ := c.t.d.def_ i e1
  exact ⟨_, fd, hx_glo c X G j e2, fun_of_D F⟩
theorem hx_int (c : He.SaysX fa fn ts tf (exAll exs) w h K) (X : K.In h) (G : h.Ns mainGlobals mg) (j : Nat) {i : Int} (e : fa[j]? = some (.int x i)) : GlobV mg x (.int i) := by
  obtain ⟨t, e2⟩ := He.int_ok X G (c.t.d.fact j e)
  exact ⟨_, e2, ⟨t, rfl⟩⟩
theorem hx_str (c : He.SaysX fa fn ts tf (exAll exs) w h K) (X : K.In h) (G : h.Ns mainGlobals mg) (j : Nat) {z : Str} (e : fa[j]? = some (.str x z)) : GlobV mg x (.str z) := by
  obtain ⟨t, e2⟩ := He.str_ok X G (c.t.d.fact j e)
  exact ⟨_, e2, ⟨t, rfl⟩⟩
theorem hx_tup (c : He.SaysX fa fn ts tf (exAll exs) w h K) (X : K.In h) (G : h.Ns mainGlobals mg) (j i : Nat) {vs : List He.Dv} {xs : List V} (e : fa[j]? = some (.glo x)) (e2 : exs[i]? = some (fun K => He.tupB K x vs)) (hx : vs.map (He.Dv.v K) = xs) : GlobT K mg x xs := by
  subst hx
  exact ⟨_, hx_glo c X G j e, fun H => He.tupB_ok (hx_ex c i e2) H⟩
end
theorem walk_ofGE {l : PySem.W.OpenLaw} {n k : Nat} {q : Program} {loose : List Str} {XP : (Str → Option Value) → Heap → Prop} {YP : World → Heap → Prop} {d : DefRec} {CX : World → CXT}
    (hn : l.most = some n) (hn2 : n ≤ sizeLine) (hdf : d.params.defaults = []) (hr : Room k callerA)
    (F : ∀ (w : World) (mg : Str → Option Value) (fa : Addr) (h : Heap), YP w h → h.Ns mainGlobals mg → mg d.name = some (.ref fa) → ∃ (K : PySem.W.Frag) (sp : Sp), K.In h ∧
      (∀ base : Heap, K.In base → base.Ns mainGlobals mg → FnG l.prog w K mg base (CX w) k fa sp) ∧
      ∀ (H : Hp) (a : Addr) (ns : List Int), ns.length ≤ n → (∀ z ∈ ns, Builtin.Int.intBits z ≤ 1048576) → SqL K H a (ns.map V.int) → sp [.ref a] H (fun v _ => v = .bl true) fun _ _ _ => False)
    (hCX : ∀ (w : World) (H : Hp) (s : Shared) (e : Value) (s' : Shared), CX w [] H s (fun _ _ _ => False) e s' → False) :
    PySem.W.WalkO q loose XP YP l.row.toRowW d [] (fun f vs => PySem.call f vs) := by
  refine Att.attach_callB hn hdf fun w s₀ s₁ mg mb fa o pm cd doc a vs ns G Y ho hd hcd hmg hobj hints hlen hbits hg => ?_
  obtain ⟨K, sp, KX, hF, hsp⟩ := F w mg fa _ Y G.T.g hmg
  exact law_callG KX G.T.g G.T.b G.T.builtins G.T.nolimit hg hobj hints (Nat.le_trans hlen hn2) hr hF (fun H hS => hsp H a ns hlen hbits hS) fun H e s' => hCX w H s₁ e s'
end Cb

end

section
set_option maxRecDepth 100000
set_option maxHeartbeats 4000000
set_option autoImplicit false
/-! Hd, part C: the Hook's objects found by a mask of bits (no list searched), the run's equation of parts. -/
namespace Cb
open PySem PySem.Spec PyProof.Rows L2
/-- those that are not yet marked, marked -/
def markZ : List Addr → Nat → List Addr → (List Addr → Nat → List Addr) → List Addr
  | [], m, acc, k => k acc m
  | a :: r, m, acc, k => match Nat.beq (Nat.land (Nat.shiftRight m a) 1) 0 with
    | true => HandSHeadRun.frNat (Nat.lor m (Nat.shiftLeft 1 a)) fun m => markZ r m (a :: acc) k
    | false => markZ r m acc k
def levZ (g : Addr → Option Obj) : Nat → List Addr → Nat → List Addr → List Addr
  | 0, _, _, all => all
  | n + 1, f, m, all => markZ (f.flatMap fun a => match g a with
    | some o => He.refsD o
    | none => []) m [] fun f2 m2 => levZ g n f2 m2 (all ++ f2)
def asZ (g : Addr → Option Obj) (n : Nat) : List Addr := levZ g n [mainGlobals] (Nat.shiftLeft 1 mainGlobals) [mainGlobals]
def obsZ (n : Nat) (fa : List He.Fa) (fn : List He.DefD) (ts : List He.Tab) (tf : List He.Defn) (ex : PySem.W.Frag → Bool) (g : Addr → Option Obj) : He.AlX :=
  (He.obsT fa fn ts (He.frT g (asZ g n)), ex (He.frT g (asZ g n)) && He.tabsB g tf (He.frT g (asZ g n)))
theorem saysZ_of {as : List Addr} {fa : List He.Fa} {fn : List He.DefD} {ts : List He.Tab} {tf : List He.Defn} {ex : PySem.W.Frag → Bool} {w : World} {h : Heap} (e : ((He.obsT fa fn ts (He.frT h.get? as), ex (He.frT h.get? as) && He.tabsB h.get? tf (He.frT h.get? as)) : He.AlX) = He.valX fn ts w) : He.SaysX fa fn ts tf ex w h (He.frT h.get? as) := by
  have e1 : He.obsT fa fn ts (He.frT h.get? as) = He.valT fn ts w := congrArg (fun z : He.AlX => z.1) e
  have e2 : (ex (He.frT h.get? as) && He.tabsB h.get? tf (He.frT h.get? as)) = true := congrArg (fun z : He.AlX => z.2) e
  obtain ⟨h1, h2⟩ := He.ba e2
  have key : ∀ p ∈ tf, PySem.W.codeHdIn (He.frT h.get? as) (He.cT (He.frT h.get? as) p).1 (He.cT (He.frT h.get? as) p).2 = true ∧ ∃ o, h.get? (He.cT (He.frT h.get? as) p).2 = some o ∧ He.emptyTab o = true := fun p hp => by
    obtain ⟨h3, h4⟩ := He.ba (List.all_eq_true.mp h2 p hp)
    refine ⟨h3, ?_⟩
    cases q : h.get? (He.cT (He.frT h.get? as) p).2 with
    | none =>
      rw [q] at h4
      cases h4
    | some o =>
      rw [q] at h4
      exact ⟨o, rfl, h4⟩
  exact ⟨e1, h1, fun p hp => (key p hp).1, fun p hp => by
    obtain ⟨_, o, q, z⟩ := key p hp
    exact He.frT_none q z, fun p hp => by
    obtain ⟨_, o, q, z⟩ := key p hp
    rw [q, He.emptyTab_eq z]⟩
def hookZ (n : Nat) (fa : List He.Fa) (fn : List He.DefD) (ts : List He.Tab) (tf : List He.Defn) (ex : PySem.W.Frag → Bool) : PySem.W.Hook where
  α := He.AlX
  obs := fun s => obsZ n fa fn ts tf ex s.heap.get?
  val := fun w => He.valX fn ts w
  says := fun w h => ∃ K : PySem.W.Frag, K.In h ∧ He.SaysX fa fn ts tf ex w h K
  of := fun _ _ e => ⟨_, He.frT_in, saysZ_of e⟩
  keeps := fun _ _ _ ⟨K, hK, c⟩ k => ⟨K, PySem.W.Frag.In.keeps hK k, ⟨c.t, c.more, c.hd, c.out, fun p hp => k _ _ (c.empty p hp)⟩⟩
theorem obsZ_eq {n : Nat} {fa : List He.Fa} {fn : List He.DefD} {ts : List He.Tab} {tf : List He.Defn} {ex : PySem.W.Frag → Bool} {g : Addr → Option Obj} {s : Shared} (h : ∀ a, g a = s.heap.get? a) : obsZ n fa fn ts tf ex g = (hookZ n fa fn ts tf ex).obs s := by
  have e : g = s.heap.get? := funext h
  rw [e] <;> rfl
end Cb

end

section
set_option maxRecDepth 100000
set_option maxHeartbeats 0
set_option autoImplicit false
/-! k15: the facts as lists; the run of the top. -/
namespace Cb
open PySem PySem.Spec PyProof.Rows L2
def fa_k15 : List He.Fa := [.glo "is_integer",
  .glo "is_word",
  .glo "is_name",
  .glo "are_ascending",
  .glo "is_array",
  .glo "is_arrays",
  .glo "is_count",
  .glo "is_instruction",
  .glo "is_head",
  .glo "is_code",
  .glo "_law_cell",
  .glo "_law_pool",
  .glo "_law_draw",
  .glo "_law_figure",
  .glo "_law_titles",
  .glo "_law_grow",
  .glo "_law_block",
  .glo "_law_sound",
  .glo "_law_plan",
  .glo "_law_whole",
  .glo "_law_is_name",
  .glo "_law_is_row",
  .glo "_law_are_parts",
  .glo "_law_is_plan",
  .glo "_law_odd_row",
  .glo "_law_bent_part",
  .glo "_law_spoilt",
  .glo "_law_asked",
  .glo "_law_right",
  .glo "_law_limits_right",
  .glo "_law_truths_right",
  .glo "law",
  .free "isinstance",
  .free "int",
  .free "bool",
  .free "str",
  .free "tuple",
  .free "list",
  .free "abs",
  .free "len",
  .free "divmod",
  .free "range",
  .free "all",
  .free "any",
  .free "max",
  .free "min",
  .free "repr",
  .free "zip",
  .free "sorted",
  .free "set",
  .free "enumerate",
  .int "MOST_ARRAYS" (8),
  .int "MOST_ELEMENTS" (256),
  .int "MOST_FUNCTIONS" (12),
  .int "MOST_PARAMETERS" (6),
  .int "MOST_LOCALS" (200),
  .int "MOST_INSTRUCTIONS" (10000),
  .int "LEAST" (-2147483648),
  .int "GREATEST" (2147483647),
  .str "LETTERS" "abcdefghijklmnopqrstuvwxyz",
  .str "DIGITS" "0123456789",
  .int "LONGEST_NAME" (12),
  .glo "KEYWORDS",
  .glo "BARE",
  .glo "LOCALS",
  .glo "ARRAYS",
  .glo "JUMPS"]
def fn_k15 : List He.DefD := [(dSk "is_integer" s_is_integer []),
  (dSk "is_word" s_is_word []),
  (dSk "is_name" s_is_name []),
  (dSk "are_ascending" s_are_ascending []),
  (dSk "is_array" s_is_array []),
  (dSk "is_arrays" s_is_arrays []),
  (dSk "is_count" s_is_count []),
  (dSk "is_instruction" s_is_instruction []),
  (dSk "is_head" s_is_head []),
  (dSk "is_code" s_is_code []),
  (dSk "_law_cell" s_law_cell []),
  (dSk "_law_pool" s_law_pool []),
  (dSk "_law_draw" s_law_draw []),
  (dSk "_law_figure" s_law_figure []),
  (dSk "_law_titles" s_law_titles []),
  (dSk "_law_grow" s_law_grow []),
  (dSk "_law_block" s_law_block []),
  (dSk "_law_sound" s_law_sound []),
  (dSk "_law_plan" s_law_plan []),
  (dSk "_law_whole" s_law_whole []),
  (dSk "_law_is_name" s_law_is_name []),
  (dSk "_law_is_row" s_law_is_row []),
  (dSk "_law_are_parts" s_law_are_parts []),
  (dSk "_law_is_plan" s_law_is_plan []),
  (dSk "_law_odd_row" s_law_odd_row []),
  (dSk "_law_bent_part" s_law_bent_part []),
  (dSk "_law_spoilt" s_law_spoilt []),
  (dSk "_law_asked" s_law_asked []),
  (dSk "_law_right" s_law_right []),
  (dSk "_law_limits_right" s_law_limits_right []),
  (dSk "_law_truths_right" s_law_truths_right []),
  (dSk "law" s_law [])]
def ts_k15 : List He.Tab := []
def exs_k15 : List (PySem.W.Frag → Bool) := [(fun K => He.tupB K "KEYWORDS" [.str "array", .str "block", .str "break", .str "continue", .str "drop", .str "else", .str "func", .str "if", .str "loop", .str "put", .str "rem", .str "return", .str "trap"]),
  (fun K => He.tupB K "BARE" [.str "dup", .str "swap", .str "pop", .str "put", .str "return", .str "trap", .str "neg", .str "not", .str "add", .str "sub", .str "mul", .str "div", .str "rem", .str "and", .str "or", .str "xor", .str "shl", .str "shr", .str "lt", .str "le", .str "gt", .str "ge", .str "eq", .str "ne"]),
  (fun K => He.tupB K "LOCALS" [.str "load", .str "store"]),
  (fun K => He.tupB K "ARRAYS" [.str "get", .str "set"]),
  (fun K => He.tupB K "JUMPS" [.str "jump", .str "jumpif"])]
def nm0_k15 : List Str := ["MOST_ARRAYS", "MOST_ELEMENTS", "MOST_FUNCTIONS", "MOST_PARAMETERS", "MOST_LOCALS", "MOST_INSTRUCTIONS", "LEAST", "GREATEST", "SINGLE", "DOUBLE", "is_integer", "is_word", "LETTERS", "DIGITS", "LONGEST_NAME", "KEYWORDS", "is_name", "are_ascending", "is_array", "is_arrays", "BARE", "LOCALS", "ARRAYS", "JUMPS", "is_count", "is_instruction", "is_head", "is_code", "_law_cell", "_law_pool"]
def nm1_k15 : List Str := ["_law_draw", "_law_figure", "_law_titles", "_law_grow", "_law_block", "_law_sound", "_law_plan", "_law_whole", "_law_is_name", "_law_is_row", "_law_are_parts", "_law_is_plan", "_law_odd_row", "_law_bent_part", "_law_spoilt", "_law_asked", "_law_right", "_law_limits_right", "_law_truths_right"]
def nm_k15 : List Str := nm0_k15 ++ nm1_k15
abbrev hk_k15 : PySem.W.Hook := hookZ 6 fa_k15 fn_k15 ts_k15 [] (exAll exs_k15)
def ob_k15 (s : PySem.W.SharedT) : He.AlX := obsZ 6 fa_k15 fn_k15 ts_k15 [] (exAll exs_k15) (HandSHeadRun.getT s)
theorem ob_eq_k15 (s : PySem.W.SharedT) : ob_k15 s = hk_k15.obs s.abs := obsZ_eq (HandSHeadRun.getT_eq s)
abbrev R_k15 : PySem.W.OpenRow := PySem.W.OpenLaw.row PySem.Challenge.rw_codeback_k15_what_code_is
theorem run0_k15 (w : World) : HandSHeadRun.RunEq R_k15 (PySem.W.view R_k15.prog [53]) hk_k15 ob_k15 8000 nm_k15 (w.withFollow "special-get-raises" false) := by
  intro os
  kernel_rfl
theorem run1_k15 (w : World) : HandSHeadRun.RunEq R_k15 (PySem.W.view R_k15.prog [53]) hk_k15 ob_k15 8000 nm_k15 (w.withFollow "special-get-raises" true) := by
  intro os
  kernel_rfl
theorem run_k15 (w : World) : HandSHeadRun.RunEq R_k15 (PySem.W.view R_k15.prog [53]) hk_k15 ob_k15 8000 nm_k15 w := PySem.W.byRow2 "special-get-raises" (P := fun w => HandSHeadRun.RunEq R_k15 (PySem.W.view R_k15.prog [53]) hk_k15 ob_k15 8000 nm_k15 w) run0_k15 run1_k15 w
end Cb

end

section
set_option maxRecDepth 100000
set_option maxHeartbeats 4000000
set_option autoImplicit false
namespace Cb
open PySem PySem.Spec PyProof.Rows L2
section
variable {P : Program} {w : World} {K : PySem.W.Frag} {mg : Str → Option Value} {base : Heap}
/-! ### is_integer -/
def D_is_integer : FD := runF 1 1 ((fRet (fAndV (fIsi isInt (fName 0)) (fNotV (fIsi isBool (fName 0))))))
theorem g_is_integer (T : Txt K mg) : Gives P w K mg base CX0 1 "is_integer" (spF D_is_integer) := by
  exact givesF T.d_is_integer sc_is_integer rfl (by decide) (fun _ _ _ _ _ _ us hl => match us, hl with | [_], _ => rfl) fun f cdv A outer s H E hr =>
      (b_one (s_ret (o_and (o_isi kb_int (o_name (pv 0)) (by rfl) T.n_isinstance (by decide +kernel) (pe_bltn (v := .ty "int") (by rfl) T.n_int (by decide +kernel) rfl)) (o_one (o_not (o_isi kb_bool (o_name (pv 0)) (by rfl) T.n_isinstance (by decide +kernel) (pe_bltn (v := .ty "bool") (by rfl) T.n_bool (by decide +kernel) rfl)))))))
/-! ### is_word -/
def D_is_word : FD := runF 1 1 ((fRet (fAndV (fOwn D_is_integer (fCons (fDat (fName 0)) fNil)) (fOfB (fChain opLe opLe (fC (.int (-2147483648))) (fName 0) (fC (.int (2147483647))))))))
theorem g_is_word (T : Txt K mg) : Gives P w K mg base CX0 2 "is_word" (spF D_is_word) := by
  have g_is_integer : Gives P w K mg base CX0 1 "is_integer" (spF (D_is_integer)) := g_is_integer T
  exact givesF T.d_is_word sc_is_word rfl (by decide) (fun _ _ _ _ _ _ us hl => match us, hl with | [_], _ => rfl) fun f cdv A outer s H E hr =>
      (b_one (s_ret (o_and (o_own g_is_integer (hr.mono (by omega)) (by rfl) pass0 (a_consD (o_name (pv 0)) a_nil)) (o_one (o_chain opLe_ok opLe_ok (o_const (pe_gv (by rfl) T.c_LEAST)) (o_name (pv 0)) (o_const (pe_gv (by rfl) T.c_GREATEST)))))))
/-! ### is_name -/
def D_is_name : FD := runF 1 2 ((fSeq (fIfS (fOr (fNot (fTru (fIsi isStr (fName 0)))) (fOr (fNot (fChain opLt opLe (fC (.int (0))) (fCall false opLen (fCons (fName 0) fNil)) (fC (.int (12))))) (fCmp opIn (fName 0) (fCst [(.str "array"), (.str "block"), (.str "break"), (.str "continue"), (.str "drop"), (.str "else"), (.str "func"), (.str "if"), (.str "loop"), (.str "put"), (.str "rem"), (.str "return"), (.str "trap")])))) (fRet (fC (.bool false)))
    fSkip)
  (fRet (fAndV (fOp2 false opIn (fIx opIx (fName 0) (fC (.int (0)))) (fC (.str "abcdefghijklmnopqrstuvwxyz"))) (fCall false opAll (fCons (fLc (fIter (fName 0)) (gN' 1) (fpure true) (fDat (fOp2 false opIn (fName 1) (fOp2 true opAdd (fC (.str "abcdefghijklmnopqrstuvwxyz")) (fC (.str "0123456789"))))) [1]) fNil))))))
theorem g_is_name (T : Txt K mg) : Gives P w K mg base CX0 1 "is_name" (spF D_is_name) := by
  exact givesF T.d_is_name sc_is_name rfl (by decide) (fun _ _ _ _ _ _ us hl => match us, hl with | [_], _ => rfl) fun f cdv A outer s H E hr =>
      (b_cons (s_if (t_w (w_or (t_not (t_truth (o_isi kb_str (o_name (pv 0)) (by rfl) T.n_isinstance (by decide +kernel) (pe_bltn (v := .ty "str") (by rfl) T.n_str (by decide +kernel) rfl)))) (w_or (t_not (t_chain opLt_ok opLe_ok (o_const pe_int) (o_callB (s := false) opLen_ok (by rfl) T.n_len (by decide +kernel) (a_cons (o_name (pv 0)) a_nil)) (o_const (pe_gv (by rfl) T.c_LONGEST_NAME)))) (w_or1 (t_cmp (opIn_ok (units1 hr)) (o_name (pv 0)) (o_cst (pe_gt (by rfl) T.c_KEYWORDS)) (by rfl)))))) (b_one (s_ret (o_const pe_bl)))
    b_nil)
      (b_one (s_ret (o_and (o_cmp (opIn_ok (units1 hr)) (o_ix opIx_ok (o_name (pv 0)) (o_const pe_int) (fun _ _ => rfl)) (o_const (pe_gv (by rfl) T.c_LETTERS)) (by rfl)) (o_one (o_callB (s := false) (opAll_ok rfl) (by rfl) T.n_all (by decide +kernel) (a_cons (o_lc (own := [("character", 1)]) rfl sc_is_name.nd (i_val (o_name (pv 0))) (blkOk_by (N := ["value", "character"]) (sc := defScope s_is_name) (by decide +kernel)) (fun _ _ _ _ _ => (g_name (pg_name (i := 1) sc_is_name.nd rfl (Or.inl rfl)))) (fun _ _ _ _ _ => ts_nil) (fun _ _ _ _ _ => (o_cmp (opIn_ok (units1 hr)) (o_name (pv 1)) (o_op2 opAdd_ok (o_const (pe_gv (by rfl) T.c_LETTERS)) (o_const (pe_gv (by rfl) T.c_DIGITS))) (by rfl)))) a_nil)))))))
/-! ### are_ascending -/
def D_are_ascending : FD := runF 1 2 ((fRet (fCall false opAll (fCons (fLc (fbind (fCons (fOp2 true opSub (fCall false opLen (fCons (fName 0) fNil)) (fC (.int (1)))) fNil) fun rs => if rs.length = 1 then fRange (fpure rs) else fun _ => none) (gN' 1) (fpure true) (fDat (fOp2 false opLt (fIx opIx (fName 0) (fName 1)) (fIx opIx (fName 0) (fOp2 true opAdd (fName 1) (fC (.int (1))))))) [1]) fNil))))
theorem g_are_ascending (T : Txt K mg) : Gives P w K mg base CX0 1 "are_ascending" (spF D_are_ascending) := by
  exact givesF T.d_are_ascending sc_are_ascending rfl (by decide) (fun _ _ _ _ _ _ us hl => match us, hl with | [_], _ => rfl) fun f cdv A outer s H E hr =>
      (b_one (s_ret (o_callB (s := false) (opAll_ok rfl) (by rfl) T.n_all (by decide +kernel) (a_cons (o_lc (own := [("index", 1)]) rfl sc_are_ascending.nd (i_range1 (by rfl) T.n_range (a_cons (o_op2 opSub_ok (o_callB (s := false) opLen_ok (by rfl) T.n_len (by decide +kernel) (a_cons (o_name (pv 0)) a_nil)) (o_const pe_int)) a_nil)) (blkOk_by (N := ["names", "index"]) (sc := defScope s_are_ascending) (by decide +kernel)) (fun _ _ _ _ _ => (g_name (pg_name (i := 1) sc_are_ascending.nd rfl (Or.inl rfl)))) (fun _ _ _ _ _ => ts_nil) (fun _ _ _ _ _ => (o_cmp opLt_ok (o_ix opIx_ok (o_name (pv 0)) (o_name (pv 1)) (fun _ _ => rfl)) (o_ix opIx_ok (o_name (pv 0)) (o_op2 opAdd_ok (o_name (pv 1)) (o_const pe_int)) (fun _ _ => rfl)) (nomark _)))) a_nil))))
/-! ### is_array -/
def D_is_array : FD := runF 1 1 ((fSeq (fIfS (fOr (fNot (fTru (fIsi isTup (fName 0)))) (fOr (fCmp opNe (fCall false opLen (fCons (fName 0) fNil)) (fC (.int (2)))) (fNot (fTru (fOwn D_is_name (fCons (fDat (fIx opIx (fName 0) (fC (.int (0))))) fNil)))))) (fRet (fC (.bool false)))
    fSkip)
  (fRet (fAndV (fOwn D_is_integer (fCons (fDat (fIx opIx (fName 0) (fC (.int (1))))) fNil)) (fOfB (fChain opLe opLe (fC (.int (1))) (fIx opIx (fName 0) (fC (.int (1)))) (fC (.int (256)))))))))
theorem g_is_array (T : Txt K mg) : Gives P w K mg base CX0 2 "is_array" (spF D_is_array) := by
  have g_is_integer : Gives P w K mg base CX0 1 "is_integer" (spF (D_is_integer)) := g_is_integer T
  have g_is_name : Gives P w K mg base CX0 1 "is_name" (spF (D_is_name)) := g_is_name T
  exact givesF T.d_is_array sc_is_array rfl (by decide) (fun _ _ _ _ _ _ us hl => match us, hl with | [_], _ => rfl) fun f cdv A outer s H E hr =>
      (b_cons (s_if (t_w (w_or (t_not (t_truth (o_isi kb_tuple (o_name (pv 0)) (by rfl) T.n_isinstance (by decide +kernel) (pe_bltn (v := .ty "tuple") (by rfl) T.n_tuple (by decide +kernel) rfl)))) (w_or (t_cmp (opNe_ok (units64 hr)) (o_callB (s := false) opLen_ok (by rfl) T.n_len (by decide +kernel) (a_cons (o_name (pv 0)) a_nil)) (o_const pe_int) (nomark _)) (w_or1 (t_not (t_truth (o_own g_is_name (hr.mono (by omega)) (by rfl) pass0 (a_consD (o_ix opIx_ok (o_name (pv 0)) (o_const pe_int) (fun _ _ => rfl)) a_nil)))))))) (b_one (s_ret (o_const pe_bl)))
    b_nil)
      (b_one (s_ret (o_and (o_own g_is_integer (hr.mono (by omega)) (by rfl) pass0 (a_consD (o_ix opIx_ok (o_name (pv 0)) (o_const pe_int) (fun _ _ => rfl)) a_nil)) (o_one (o_chain opLe_ok opLe_ok (o_const pe_int) (o_ix opIx_ok (o_name (pv 0)) (o_const pe_int) (fun _ _ => rfl)) (o_const (pe_gv (by rfl) T.c_MOST_ELEMENTS))))))))
/-! ### is_arrays -/
def D_is_arrays : FD := runF 1 4 ((fSeq (fIfS (fOr (fNot (fTru (fIsi isTup (fName 0)))) (fOr (fCmp opGt (fCall false opLen (fCons (fName 0) fNil)) (fC (.int (8)))) (fNot (fTru (fCall false opAll (fCons (fLc (fIter (fName 0)) (gN' 1) (fpure true) (fDat (fOwn D_is_array (fCons (fDat (fName 1)) fNil))) [1]) fNil)))))) (fRet (fC (.bool false)))
    fSkip)
  (fRet (fOwn D_are_ascending (fCons (fDat (fLc (fIter (fName 0)) (gTup' 2 (gCons' (gN' 2) (gCons' (gN' 3) gNil'))) (fpure true) (fDat (fName 2)) [2, 3])) fNil)))))
theorem g_is_arrays (T : Txt K mg) : Gives P w K mg base CX0 3 "is_arrays" (spF D_is_arrays) := by
  have g_are_ascending : Gives P w K mg base CX0 1 "are_ascending" (spF (D_are_ascending)) := g_are_ascending T
  have g_is_array : Gives P w K mg base CX0 2 "is_array" (spF (D_is_array)) := g_is_array T
  exact givesF T.d_is_arrays sc_is_arrays rfl (by decide) (fun _ _ _ _ _ _ us hl => match us, hl with | [_], _ => rfl) fun f cdv A outer s H E hr =>
      (b_cons (s_if (t_w (w_or (t_not (t_truth (o_isi kb_tuple (o_name (pv 0)) (by rfl) T.n_isinstance (by decide +kernel) (pe_bltn (v := .ty "tuple") (by rfl) T.n_tuple (by decide +kernel) rfl)))) (w_or (t_cmp opGt_ok (o_callB (s := false) opLen_ok (by rfl) T.n_len (by decide +kernel) (a_cons (o_name (pv 0)) a_nil)) (o_const (pe_gv (by rfl) T.c_MOST_ARRAYS)) (nomark _)) (w_or1 (t_not (t_truth (o_callB (s := false) (opAll_ok rfl) (by rfl) T.n_all (by decide +kernel) (a_cons (o_lc (own := [("array", 1)]) rfl sc_is_arrays.nd (i_val (o_name (pv 0))) (blkOk_by (N := ["value", "array", "name", "size"]) (sc := defScope s_is_arrays) (by decide +kernel)) (fun _ _ _ _ _ => (g_name (pg_name (i := 1) sc_is_arrays.nd rfl (Or.inl rfl)))) (fun _ _ _ _ _ => ts_nil) (fun _ _ _ _ _ => (o_own g_is_array (hr.mono (by omega)) (by rfl) pass0 (a_consD (o_name (pv 1)) a_nil)))) a_nil)))))))) (b_one (s_ret (o_const pe_bl)))
    b_nil)
      (b_one (s_ret (o_own g_are_ascending (hr.mono (by omega)) (by rfl) pass0 (a_consD (o_lc (own := [("name", 2), ("size", 3)]) rfl sc_is_arrays.nd (i_val (o_name (pv 0))) (blkOk_by (N := ["value", "array", "name", "size"]) (sc := defScope s_is_arrays) (by decide +kernel)) (fun _ _ _ _ _ => (g_tup (g_cons (g_name (pg_name (i := 2) sc_is_arrays.nd rfl (Or.inl rfl))) (g_cons (g_name (pg_name (i := 3) sc_is_arrays.nd rfl (Or.inl rfl))) g_nil)) (fun _ a => pg_tup (by rfl) a))) (fun _ _ _ _ _ => ts_nil) (fun _ _ _ _ _ => (o_name (pv 2)))) a_nil)))))
/-! ### is_count -/
def D_is_count : FD := runF 3 3 ((fRet (fAndV (fIsi isInt (fName 0)) (fAndV (fNotV (fIsi isBool (fName 0))) (fOfB (fChain opLe opLe (fName 1) (fName 0) (fName 2)))))))
theorem g_is_count (T : Txt K mg) : Gives P w K mg base CX0 1 "is_count" (spF D_is_count) := by
  exact givesF T.d_is_count sc_is_count rfl (by decide) (fun _ _ _ _ _ _ us hl => match us, hl with | [_, _, _], _ => rfl) fun f cdv A outer s H E hr =>
      (b_one (s_ret (o_and (o_isi kb_int (o_name (pv 0)) (by rfl) T.n_isinstance (by decide +kernel) (pe_bltn (v := .ty "int") (by rfl) T.n_int (by decide +kernel) rfl)) (o_and (o_not (o_isi kb_bool (o_name (pv 0)) (by rfl) T.n_isinstance (by decide +kernel) (pe_bltn (v := .ty "bool") (by rfl) T.n_bool (by decide +kernel) rfl))) (o_one (o_chain opLe_ok opLe_ok (o_name (pv 1)) (o_name (pv 0)) (o_name (pv 2))))))))
/-! ### is_instruction -/
def D_is_instruction : FD := runF 4 6 ((fSeq (fIfS (fOr (fNot (fTru (fIsi isTup (fName 0)))) (fOr (fNot (fChain opLe opLe (fC (.int (1))) (fCall false opLen (fCons (fName 0) fNil)) (fC (.int (2))))) (fNot (fTru (fIsi isStr (fIx opIx (fName 0) (fC (.int (0))))))))) (fRet (fC (.bool false)))
    fSkip)
  (fSeq (fSet 4 (fIx opIx (fName 0) (fC (.int (0)))))
  (fSeq (fIfS (fCmp opEq (fCall false opLen (fCons (fName 0) fNil)) (fC (.int (1)))) (fRet (fOp2 false opIn (fName 4) (fCst [(.str "dup"), (.str "swap"), (.str "pop"), (.str "put"), (.str "return"), (.str "trap"), (.str "neg"), (.str "not"), (.str "add"), (.str "sub"), (.str "mul"), (.str "div"), (.str "rem"), (.str "and"), (.str "or"), (.str "xor"), (.str "shl"), (.str "shr"), (.str "lt"), (.str "le"), (.str "gt"), (.str "ge"), (.str "eq"), (.str "ne")])))
    fSkip)
  (fSeq (fSet 5 (fIx opIx (fName 0) (fC (.int (1)))))
  (fSeq (fIfS (fCmp opEq (fName 4) (fC (.str "push"))) (fRet (fOwn D_is_word (fCons (fDat (fName 5)) fNil)))
    fSkip)
  (fSeq (fIfS (fCmp opIn (fName 4) (fCst [(.str "load"), (.str "store")])) (fRet (fOwn D_is_count (fCons (fDat (fName 5)) (fCons (fDat (fC (.int (0)))) (fCons (fDat (fOp2 true opSub (fIx opIx (fName 1) (fC (.int (2)))) (fC (.int (1))))) fNil)))))
    fSkip)
  (fSeq (fIfS (fCmp opIn (fName 4) (fCst [(.str "jump"), (.str "jumpif")])) (fRet (fOwn D_is_count (fCons (fDat (fName 5)) (fCons (fDat (fC (.int (0)))) (fCons (fDat (fOp2 true opSub (fCall false opLen (fCons (fIx opIx (fName 1) (fC (.int (3)))) fNil)) (fC (.int (1))))) fNil)))))
    fSkip)
  (fSeq (fIfS (fNot (fTru (fIsi isStr (fName 5)))) (fRet (fC (.bool false)))
    fSkip)
  (fRet (fOrV (fAndV (fOp2 false opIn (fName 4) (fCst [(.str "get"), (.str "set")])) (fOp2 false opIn (fName 5) (fName 2))) (fAndV (fOp2 false opEq (fName 4) (fC (.str "call"))) (fOp2 false opIn (fName 5) (fName 3))))))))))))))
theorem g_is_instruction (T : Txt K mg) : Gives P w K mg base CX0 3 "is_instruction" (spF D_is_instruction) := by
  have g_is_count : Gives P w K mg base CX0 1 "is_count" (spF (D_is_count)) := g_is_count T
  have g_is_word : Gives P w K mg base CX0 2 "is_word" (spF (D_is_word)) := g_is_word T
  exact givesF T.d_is_instruction sc_is_instruction rfl (by decide) (fun _ _ _ _ _ _ us hl => match us, hl with | [_, _, _, _], _ => rfl) fun f cdv A outer s H E hr =>
      (b_cons (s_if (t_w (w_or (t_not (t_truth (o_isi kb_tuple (o_name (pv 0)) (by rfl) T.n_isinstance (by decide +kernel) (pe_bltn (v := .ty "tuple") (by rfl) T.n_tuple (by decide +kernel) rfl)))) (w_or (t_not (t_chain opLe_ok opLe_ok (o_const pe_int) (o_callB (s := false) opLen_ok (by rfl) T.n_len (by decide +kernel) (a_cons (o_name (pv 0)) a_nil)) (o_const pe_int))) (w_or1 (t_not (t_truth (o_isi kb_str (o_ix opIx_ok (o_name (pv 0)) (o_const pe_int) (fun _ _ => rfl)) (by rfl) T.n_isinstance (by decide +kernel) (pe_bltn (v := .ty "str") (by rfl) T.n_str (by decide +kernel) rfl)))))))) (b_one (s_ret (o_const pe_bl)))
    b_nil)
      (b_cons (s_set (i := 4) (o_ix opIx_ok (o_name (pv 0)) (o_const pe_int) (fun _ _ => rfl)) (fun _ a => ps_set (i := 4) sc_is_instruction.nd rfl (Or.inl rfl) a))
      (b_cons (s_if (t_cmp (opEq_ok (units64 hr)) (o_callB (s := false) opLen_ok (by rfl) T.n_len (by decide +kernel) (a_cons (o_name (pv 0)) a_nil)) (o_const pe_int) (nomark _)) (b_one (s_ret (o_cmp (opIn_ok (units1 hr)) (o_name (pv 4)) (o_cst (pe_gt (by rfl) T.c_BARE)) (by rfl))))
    b_nil)
      (b_cons (s_set (i := 5) (o_ix opIx_ok (o_name (pv 0)) (o_const pe_int) (fun _ _ => rfl)) (fun _ a => ps_set (i := 5) sc_is_instruction.nd rfl (Or.inl rfl) a))
      (b_cons (s_if (t_cmp (opEq_ok (units64 hr)) (o_name (pv 4)) (o_const pe_str) (nomark _)) (b_one (s_ret (o_own g_is_word (hr.mono (by omega)) (by rfl) pass0 (a_consD (o_name (pv 5)) a_nil))))
    b_nil)
      (b_cons (s_if (t_cmp (opIn_ok (units1 hr)) (o_name (pv 4)) (o_cst (pe_gt (by rfl) T.c_LOCALS)) (by rfl)) (b_one (s_ret (o_own g_is_count (hr.mono (by omega)) (by rfl) pass0 (a_consD (o_name (pv 5)) (a_consD (o_const pe_int) (a_consD (o_op2 opSub_ok (o_ix opIx_ok (o_name (pv 1)) (o_const pe_int) (fun _ _ => rfl)) (o_const pe_int)) a_nil))))))
    b_nil)
      (b_cons (s_if (t_cmp (opIn_ok (units1 hr)) (o_name (pv 4)) (o_cst (pe_gt (by rfl) T.c_JUMPS)) (by rfl)) (b_one (s_ret (o_own g_is_count (hr.mono (by omega)) (by rfl) pass0 (a_consD (o_name (pv 5)) (a_consD (o_const pe_int) (a_consD (o_op2 opSub_ok (o_callB (s := false) opLen_ok (by rfl) T.n_len (by decide +kernel) (a_cons (o_ix opIx_ok (o_name (pv 1)) (o_const pe_int) (fun _ _ => rfl)) a_nil)) (o_const pe_int)) a_nil))))))
    b_nil)
      (b_cons (s_if (t_not (t_truth (o_isi kb_str (o_name (pv 5)) (by rfl) T.n_isinstance (by decide +kernel) (pe_bltn (v := .ty "str") (by rfl) T.n_str (by decide +kernel) rfl)))) (b_one (s_ret (o_const pe_bl)))
    b_nil)
      (b_one (s_ret (o_or (o_and (o_cmp (opIn_ok (units1 hr)) (o_name (pv 4)) (o_cst (pe_gt (by rfl) T.c_ARRAYS)) (by rfl)) (o_one (o_cmp (opIn_ok (units1 hr)) (o_name (pv 5)) (o_name (pv 2)) (by rfl)))) (o_one (o_and (o_cmp (opEq_ok (units64 hr)) (o_name (pv 4)) (o_const pe_str) (nomark _)) (o_one (o_cmp (opIn_ok (units1 hr)) (o_name (pv 5)) (o_name (pv 3)) (by rfl))))))))))))))))
/-! ### is_head -/
def D_is_head : FD := runF 1 1 ((fSeq (fIfS (fOr (fNot (fTru (fIsi isTup (fName 0)))) (fOr (fCmp opNe (fCall false opLen (fCons (fName 0) fNil)) (fC (.int (4)))) (fNot (fTru (fOwn D_is_name (fCons (fDat (fIx opIx (fName 0) (fC (.int (0))))) fNil)))))) (fRet (fC (.bool false)))
    fSkip)
  (fSeq (fIfS (fOr (fNot (fTru (fOwn D_is_count (fCons (fDat (fIx opIx (fName 0) (fC (.int (1))))) (fCons (fDat (fC (.int (0)))) (fCons (fDat (fC (.int (6)))) fNil)))))) (fNot (fTru (fOwn D_is_count (fCons (fDat (fIx opIx (fName 0) (fC (.int (2))))) (fCons (fDat (fIx opIx (fName 0) (fC (.int (1))))) (fCons (fDat (fC (.int (200)))) fNil))))))) (fRet (fC (.bool false)))
    fSkip)
  (fRet (fAndV (fIsi isTup (fIx opIx (fName 0) (fC (.int (3))))) (fOfB (fChain opLe opLe (fC (.int (1))) (fCall false opLen (fCons (fIx opIx (fName 0) (fC (.int (3)))) fNil)) (fC (.int (10000))))))))))
theorem g_is_head (T : Txt K mg) : Gives P w K mg base CX0 2 "is_head" (spF D_is_head) := by
  have g_is_count : Gives P w K mg base CX0 1 "is_count" (spF (D_is_count)) := g_is_count T
  have g_is_name : Gives P w K mg base CX0 1 "is_name" (spF (D_is_name)) := g_is_name T
  exact givesF T.d_is_head sc_is_head rfl (by decide) (fun _ _ _ _ _ _ us hl => match us, hl with | [_], _ => rfl) fun f cdv A outer s H E hr =>
      (b_cons (s_if (t_w (w_or (t_not (t_truth (o_isi kb_tuple (o_name (pv 0)) (by rfl) T.n_isinstance (by decide +kernel) (pe_bltn (v := .ty "tuple") (by rfl) T.n_tuple (by decide +kernel) rfl)))) (w_or (t_cmp (opNe_ok (units64 hr)) (o_callB (s := false) opLen_ok (by rfl) T.n_len (by decide +kernel) (a_cons (o_name (pv 0)) a_nil)) (o_const pe_int) (nomark _)) (w_or1 (t_not (t_truth (o_own g_is_name (hr.mono (by omega)) (by rfl) pass0 (a_consD (o_ix opIx_ok (o_name (pv 0)) (o_const pe_int) (fun _ _ => rfl)) a_nil)))))))) (b_one (s_ret (o_const pe_bl)))
    b_nil)
      (b_cons (s_if (t_w (w_or (t_not (t_truth (o_own g_is_count (hr.mono (by omega)) (by rfl) pass0 (a_consD (o_ix opIx_ok (o_name (pv 0)) (o_const pe_int) (fun _ _ => rfl)) (a_consD (o_const pe_int) (a_consD (o_const (pe_gv (by rfl) T.c_MOST_PARAMETERS)) a_nil)))))) (w_or1 (t_not (t_truth (o_own g_is_count (hr.mono (by omega)) (by rfl) pass0 (a_consD (o_ix opIx_ok (o_name (pv 0)) (o_const pe_int) (fun _ _ => rfl)) (a_consD (o_ix opIx_ok (o_name (pv 0)) (o_const pe_int) (fun _ _ => rfl)) (a_consD (o_const (pe_gv (by rfl) T.c_MOST_LOCALS)) a_nil))))))))) (b_one (s_ret (o_const pe_bl)))
    b_nil)
      (b_one (s_ret (o_and (o_isi kb_tuple (o_ix opIx_ok (o_name (pv 0)) (o_const pe_int) (fun _ _ => rfl)) (by rfl) T.n_isinstance (by decide +kernel) (pe_bltn (v := .ty "tuple") (by rfl) T.n_tuple (by decide +kernel) rfl)) (o_one (o_chain opLe_ok opLe_ok (o_const pe_int) (o_callB (s := false) opLen_ok (by rfl) T.n_len (by decide +kernel) (a_cons (o_ix opIx_ok (o_name (pv 0)) (o_const pe_int) (fun _ _ => rfl)) a_nil)) (o_const (pe_gv (by rfl) T.c_MOST_INSTRUCTIONS)))))))))
/-! ### is_code -/
def D_is_code : FD := runF 1 10 ((fSeq (fIfS (fOr (fNot (fTru (fIsi isTup (fName 0)))) (fOr (fCmp opNe (fCall false opLen (fCons (fName 0) fNil)) (fC (.int (2)))) (fNot (fTru (fOwn D_is_arrays (fCons (fDat (fIx opIx (fName 0) (fC (.int (0))))) fNil)))))) (fRet (fC (.bool false)))
    fSkip)
  (fSeq (fSet 1 (fIx opIx (fName 0) (fC (.int (1)))))
  (fSeq (fIfS (fOr (fNot (fTru (fIsi isTup (fName 1)))) (fNot (fChain opLe opLe (fC (.int (1))) (fCall false opLen (fCons (fName 1) fNil)) (fC (.int (12)))))) (fRet (fC (.bool false)))
    fSkip)
  (fSeq (fIfS (fNot (fTru (fCall false opAll (fCons (fLc (fIter (fName 1)) (gN' 2) (fpure true) (fDat (fOwn D_is_head (fCons (fDat (fName 2)) fNil))) [2]) fNil)))) (fRet (fC (.bool false)))
    fSkip)
  (fSeq (fSet 3 (fLc (fIter (fName 1)) (gN' 2) (fpure true) (fDat (fIx opIx (fName 2) (fC (.int (0))))) [2]))
  (fSeq (fIfS (fNot (fTru (fCall false opAll (fCons (fLc (fZip (fCons (fDat (fName 3)) (fCons (fDat (fSl opSl (fName 3) (fbind (fC (.int (1))) toI) (fpure none))) fNil))) (gTup' 2 (gCons' (gN' 4) (gCons' (gN' 5) gNil'))) (fpure true) (fDat (fOp2 false opLt (fName 4) (fName 5))) [4, 5]) fNil)))) (fRet (fC (.bool false)))
    fSkip)
  (fSeq (fSet 6 (fLc (fIter (fIx opIx (fName 0) (fC (.int (0))))) (gTup' 2 (gCons' (gN' 7) (gCons' (gN' 8) gNil'))) (fpure true) (fDat (fName 7)) [7, 8]))
  (fRet (fCall false opAll (fCons (fLc2 (fIter (fName 1)) (gN' 2) (fpure true) (fIter (fIx opIx (fName 2) (fC (.int (3))))) (gN' 9) (fpure true) (fDat (fOwn D_is_instruction (fCons (fDat (fName 9)) (fCons (fDat (fName 2)) (fCons (fDat (fName 6)) (fCons (fDat (fName 3)) fNil)))))) [2, 9] [9]) fNil)))))))))))
theorem g_is_code (T : Txt K mg) : Gives P w K mg base CX0 4 "is_code" (spF D_is_code) := by
  have g_is_instruction : Gives P w K mg base CX0 3 "is_instruction" (spF (D_is_instruction)) := g_is_instruction T
  have g_is_head : Gives P w K mg base CX0 2 "is_head" (spF (D_is_head)) := g_is_head T
  have g_is_arrays : Gives P w K mg base CX0 3 "is_arrays" (spF (D_is_arrays)) := g_is_arrays T
  exact givesF T.d_is_code sc_is_code rfl (by decide) (fun _ _ _ _ _ _ us hl => match us, hl with | [_], _ => rfl) fun f cdv A outer s H E hr =>
      (b_cons (s_if (t_w (w_or (t_not (t_truth (o_isi kb_tuple (o_name (pv 0)) (by rfl) T.n_isinstance (by decide +kernel) (pe_bltn (v := .ty "tuple") (by rfl) T.n_tuple (by decide +kernel) rfl)))) (w_or (t_cmp (opNe_ok (units64 hr)) (o_callB (s := false) opLen_ok (by rfl) T.n_len (by decide +kernel) (a_cons (o_name (pv 0)) a_nil)) (o_const pe_int) (nomark _)) (w_or1 (t_not (t_truth (o_own g_is_arrays (hr.mono (by omega)) (by rfl) pass0 (a_consD (o_ix opIx_ok (o_name (pv 0)) (o_const pe_int) (fun _ _ => rfl)) a_nil)))))))) (b_one (s_ret (o_const pe_bl)))
    b_nil)
      (b_cons (s_set (i := 1) (o_ix opIx_ok (o_name (pv 0)) (o_const pe_int) (fun _ _ => rfl)) (fun _ a => ps_set (i := 1) sc_is_code.nd rfl (Or.inl rfl) a))
      (b_cons (s_if (t_w (w_or (t_not (t_truth (o_isi kb_tuple (o_name (pv 1)) (by rfl) T.n_isinstance (by decide +kernel) (pe_bltn (v := .ty "tuple") (by rfl) T.n_tuple (by decide +kernel) rfl)))) (w_or1 (t_not (t_chain opLe_ok opLe_ok (o_const pe_int) (o_callB (s := false) opLen_ok (by rfl) T.n_len (by decide +kernel) (a_cons (o_name (pv 1)) a_nil)) (o_const (pe_gv (by rfl) T.c_MOST_FUNCTIONS))))))) (b_one (s_ret (o_const pe_bl)))
    b_nil)
      (b_cons (s_if (t_not (t_truth (o_callB (s := false) (opAll_ok rfl) (by rfl) T.n_all (by decide +kernel) (a_cons (o_lc (own := [("function", 2)]) rfl sc_is_code.nd (i_val (o_name (pv 1))) (blkOk_by (N := ["value", "functions", "function", "names", "one", "other", "arrays", "name", "size", "row"]) (sc := defScope s_is_code) (by decide +kernel)) (fun _ _ _ _ _ => (g_name (pg_name (i := 2) sc_is_code.nd rfl (Or.inl rfl)))) (fun _ _ _ _ _ => ts_nil) (fun _ _ _ _ _ => (o_own g_is_head (hr.mono (by omega)) (by rfl) pass0 (a_consD (o_name (pv 2)) a_nil)))) a_nil)))) (b_one (s_ret (o_const pe_bl)))
    b_nil)
      (b_cons (s_set (i := 3) (o_lc (own := [("function", 2)]) rfl sc_is_code.nd (i_val (o_name (pv 1))) (blkOk_by (N := ["value", "functions", "function", "names", "one", "other", "arrays", "name", "size", "row"]) (sc := defScope s_is_code) (by decide +kernel)) (fun _ _ _ _ _ => (g_name (pg_name (i := 2) sc_is_code.nd rfl (Or.inl rfl)))) (fun _ _ _ _ _ => ts_nil) (fun _ _ _ _ _ => (o_ix opIx_ok (o_name (pv 2)) (o_const pe_int) (fun _ _ => rfl)))) (fun _ a => ps_set (i := 3) sc_is_code.nd rfl (Or.inr rfl) a))
      (b_cons (s_if (t_not (t_truth (o_callB (s := false) (opAll_ok rfl) (by rfl) T.n_all (by decide +kernel) (a_cons (o_lc (own := [("one", 4), ("other", 5)]) rfl sc_is_code.nd (i_zip (by rfl) T.n_zip (a_consD (o_name (pv 3)) (a_consD (o_slice opSl_ok (o_name (pv 3)) (p_some (o_const pe_int)) p_none) a_nil))) (blkOk_by (N := ["value", "functions", "function", "names", "one", "other", "arrays", "name", "size", "row"]) (sc := defScope s_is_code) (by decide +kernel)) (fun _ _ _ _ _ => (g_tup (g_cons (g_name (pg_name (i := 4) sc_is_code.nd rfl (Or.inl rfl))) (g_cons (g_name (pg_name (i := 5) sc_is_code.nd rfl (Or.inl rfl))) g_nil)) (fun _ a => pg_tup (by rfl) a))) (fun _ _ _ _ _ => ts_nil) (fun _ _ _ _ _ => (o_cmp opLt_ok (o_name (pv 4)) (o_name (pv 5)) (nomark _)))) a_nil)))) (b_one (s_ret (o_const pe_bl)))
    b_nil)
      (b_cons (s_set (i := 6) (o_lc (own := [("name", 7), ("size", 8)]) rfl sc_is_code.nd (i_val (o_ix opIx_ok (o_name (pv 0)) (o_const pe_int) (fun _ _ => rfl))) (blkOk_by (N := ["value", "functions", "function", "names", "one", "other", "arrays", "name", "size", "row"]) (sc := defScope s_is_code) (by decide +kernel)) (fun _ _ _ _ _ => (g_tup (g_cons (g_name (pg_name (i := 7) sc_is_code.nd rfl (Or.inl rfl))) (g_cons (g_name (pg_name (i := 8) sc_is_code.nd rfl (Or.inl rfl))) g_nil)) (fun _ a => pg_tup (by rfl) a))) (fun _ _ _ _ _ => ts_nil) (fun _ _ _ _ _ => (o_name (pv 7)))) (fun _ a => ps_set (i := 6) sc_is_code.nd rfl (Or.inr rfl) a))
      (b_one (s_ret (o_callB (s := false) (opAll_ok rfl) (by rfl) T.n_all (by decide +kernel) (a_cons (o_lc2 (own := [("function", 2), ("row", 9)]) (vs1 := [9]) rfl sc_is_code.nd (i_val (o_name (pv 1))) (blkOk_by (N := ["value", "functions", "function", "names", "one", "other", "arrays", "name", "size", "row"]) (sc := defScope s_is_code) (by decide +kernel)) (fun _ _ _ _ _ => (g_name (pg_name (i := 2) sc_is_code.nd rfl (Or.inl rfl)))) (fun _ _ _ _ _ => ts_nil) (fun _ _ _ _ _ => (i_val (o_ix opIx_ok (o_name (pv 2)) (o_const pe_int) (fun _ _ => rfl)))) (fun _ _ _ _ _ => (g_name (pg_name (i := 9) sc_is_code.nd rfl (Or.inl rfl)))) (fun _ _ _ _ _ => ts_nil) (fun _ _ _ _ _ => (o_own g_is_instruction (hr.mono (by omega)) (by rfl) pass0 (a_consD (o_name (pv 9)) (a_consD (o_name (pv 2)) (a_consD (o_name (pv 6)) (a_consD (o_name (pv 3)) a_nil))))))) a_nil)))))))))))
theorem gk_is_code (T : Txt K mg) : GivesK P w K mg base CX0 4 "is_code" ["value"] (spF D_is_code) := by
  have g_is_instruction : Gives P w K mg base CX0 3 "is_instruction" (spF (D_is_instruction)) := g_is_instruction T
  have g_is_head : Gives P w K mg base CX0 2 "is_head" (spF (D_is_head)) := g_is_head T
  have g_is_arrays : Gives P w K mg base CX0 3 "is_arrays" (spF (D_is_arrays)) := g_is_arrays T
  exact givesKF T.d_is_code sc_is_code rfl (by decide) (fun _ _ _ _ _ _ us ws h1 h2 => match us, ws, h1, h2 with | [], [_], _, _ => rfl) fun f cdv A outer s H E hr =>
      (b_cons (s_if (t_w (w_or (t_not (t_truth (o_isi kb_tuple (o_name (pv 0)) (by rfl) T.n_isinstance (by decide +kernel) (pe_bltn (v := .ty "tuple") (by rfl) T.n_tuple (by decide +kernel) rfl)))) (w_or (t_cmp (opNe_ok (units64 hr)) (o_callB (s := false) opLen_ok (by rfl) T.n_len (by decide +kernel) (a_cons (o_name (pv 0)) a_nil)) (o_const pe_int) (nomark _)) (w_or1 (t_not (t_truth (o_own g_is_arrays (hr.mono (by omega)) (by rfl) pass0 (a_consD (o_ix opIx_ok (o_name (pv 0)) (o_const pe_int) (fun _ _ => rfl)) a_nil)))))))) (b_one (s_ret (o_const pe_bl)))
    b_nil)
      (b_cons (s_set (i := 1) (o_ix opIx_ok (o_name (pv 0)) (o_const pe_int) (fun _ _ => rfl)) (fun _ a => ps_set (i := 1) sc_is_code.nd rfl (Or.inl rfl) a))
      (b_cons (s_if (t_w (w_or (t_not (t_truth (o_isi kb_tuple (o_name (pv 1)) (by rfl) T.n_isinstance (by decide +kernel) (pe_bltn (v := .ty "tuple") (by rfl) T.n_tuple (by decide +kernel) rfl)))) (w_or1 (t_not (t_chain opLe_ok opLe_ok (o_const pe_int) (o_callB (s := false) opLen_ok (by rfl) T.n_len (by decide +kernel) (a_cons (o_name (pv 1)) a_nil)) (o_const (pe_gv (by rfl) T.c_MOST_FUNCTIONS))))))) (b_one (s_ret (o_const pe_bl)))
    b_nil)
      (b_cons (s_if (t_not (t_truth (o_callB (s := false) (opAll_ok rfl) (by rfl) T.n_all (by decide +kernel) (a_cons (o_lc (own := [("function", 2)]) rfl sc_is_code.nd (i_val (o_name (pv 1))) (blkOk_by (N := ["value", "functions", "function", "names", "one", "other", "arrays", "name", "size", "row"]) (sc := defScope s_is_code) (by decide +kernel)) (fun _ _ _ _ _ => (g_name (pg_name (i := 2) sc_is_code.nd rfl (Or.inl rfl)))) (fun _ _ _ _ _ => ts_nil) (fun _ _ _ _ _ => (o_own g_is_head (hr.mono (by omega)) (by rfl) pass0 (a_consD (o_name (pv 2)) a_nil)))) a_nil)))) (b_one (s_ret (o_const pe_bl)))
    b_nil)
      (b_cons (s_set (i := 3) (o_lc (own := [("function", 2)]) rfl sc_is_code.nd (i_val (o_name (pv 1))) (blkOk_by (N := ["value", "functions", "function", "names", "one", "other", "arrays", "name", "size", "row"]) (sc := defScope s_is_code) (by decide +kernel)) (fun _ _ _ _ _ => (g_name (pg_name (i := 2) sc_is_code.nd rfl (Or.inl rfl)))) (fun _ _ _ _ _ => ts_nil) (fun _ _ _ _ _ => (o_ix opIx_ok (o_name (pv 2)) (o_const pe_int) (fun _ _ => rfl)))) (fun _ a => ps_set (i := 3) sc_is_code.nd rfl (Or.inr rfl) a))
      (b_cons (s_if (t_not (t_truth (o_callB (s := false) (opAll_ok rfl) (by rfl) T.n_all (by decide +kernel) (a_cons (o_lc (own := [("one", 4), ("other", 5)]) rfl sc_is_code.nd (i_zip (by rfl) T.n_zip (a_consD (o_name (pv 3)) (a_consD (o_slice opSl_ok (o_name (pv 3)) (p_some (o_const pe_int)) p_none) a_nil))) (blkOk_by (N := ["value", "functions", "function", "names", "one", "other", "arrays", "name", "size", "row"]) (sc := defScope s_is_code) (by decide +kernel)) (fun _ _ _ _ _ => (g_tup (g_cons (g_name (pg_name (i := 4) sc_is_code.nd rfl (Or.inl rfl))) (g_cons (g_name (pg_name (i := 5) sc_is_code.nd rfl (Or.inl rfl))) g_nil)) (fun _ a => pg_tup (by rfl) a))) (fun _ _ _ _ _ => ts_nil) (fun _ _ _ _ _ => (o_cmp opLt_ok (o_name (pv 4)) (o_name (pv 5)) (nomark _)))) a_nil)))) (b_one (s_ret (o_const pe_bl)))
    b_nil)
      (b_cons (s_set (i := 6) (o_lc (own := [("name", 7), ("size", 8)]) rfl sc_is_code.nd (i_val (o_ix opIx_ok (o_name (pv 0)) (o_const pe_int) (fun _ _ => rfl))) (blkOk_by (N := ["value", "functions", "function", "names", "one", "other", "arrays", "name", "size", "row"]) (sc := defScope s_is_code) (by decide +kernel)) (fun _ _ _ _ _ => (g_tup (g_cons (g_name (pg_name (i := 7) sc_is_code.nd rfl (Or.inl rfl))) (g_cons (g_name (pg_name (i := 8) sc_is_code.nd rfl (Or.inl rfl))) g_nil)) (fun _ a => pg_tup (by rfl) a))) (fun _ _ _ _ _ => ts_nil) (fun _ _ _ _ _ => (o_name (pv 7)))) (fun _ a => ps_set (i := 6) sc_is_code.nd rfl (Or.inr rfl) a))
      (b_one (s_ret (o_callB (s := false) (opAll_ok rfl) (by rfl) T.n_all (by decide +kernel) (a_cons (o_lc2 (own := [("function", 2), ("row", 9)]) (vs1 := [9]) rfl sc_is_code.nd (i_val (o_name (pv 1))) (blkOk_by (N := ["value", "functions", "function", "names", "one", "other", "arrays", "name", "size", "row"]) (sc := defScope s_is_code) (by decide +kernel)) (fun _ _ _ _ _ => (g_name (pg_name (i := 2) sc_is_code.nd rfl (Or.inl rfl)))) (fun _ _ _ _ _ => ts_nil) (fun _ _ _ _ _ => (i_val (o_ix opIx_ok (o_name (pv 2)) (o_const pe_int) (fun _ _ => rfl)))) (fun _ _ _ _ _ => (g_name (pg_name (i := 9) sc_is_code.nd rfl (Or.inl rfl)))) (fun _ _ _ _ _ => ts_nil) (fun _ _ _ _ _ => (o_own g_is_instruction (hr.mono (by omega)) (by rfl) pass0 (a_consD (o_name (pv 9)) (a_consD (o_name (pv 2)) (a_consD (o_name (pv 6)) (a_consD (o_name (pv 3)) a_nil))))))) a_nil)))))))))))
end
end Cb

end

section
set_option maxRecDepth 100000
set_option maxHeartbeats 4000000
set_option autoImplicit false
namespace Cb
open PySem PySem.Spec PyProof.Rows L2
section
variable {P : Program} {w : World} {K : PySem.W.Frag} {mg : Str → Option Value} {base : Heap}
/-! ### _law_cell -/
def D_law_cell : FD := runF 2 4 ((fSeq (fIfS (fCmp opLt (fName 1) (fCall false opLen (fCons (fName 0) fNil))) (fRet (fIx opIx (fName 0) (fName 1)))
    fSkip)
  (fSeq (fSet 2 (fOp2 true opMod (fOp2 true opMul (fC (.int (60029))) (fOp2 true opAdd (fOp2 true opAdd (fOp2 true opMul (fName 1) (fName 1)) (fOp2 true opMul (fC (.int (11))) (fName 1))) (fC (.int (7))))) (fC (.int (2147483269)))))
  (fSeq (fFor (fIter (fSl opSl (fName 0) (fpure none) (fbind (fC (.int (3))) toI))) (gN' 3)
    (fSet 2 (fOp2 true opMod (fOp2 true opAdd (fOp2 true opMul (fName 2) (fC (.int (41143)))) (fName 3)) (fC (.int (2147483269))))))
  (fRet (fName 2))))))
theorem g_law_cell (T : Txt K mg) : Gives P w K mg base CX0 1 "_law_cell" (spF D_law_cell) := by
  exact givesF T.d_law_cell sc_law_cell rfl (by decide) (fun _ _ _ _ _ _ us hl => match us, hl with | [_, _], _ => rfl) fun f cdv A outer s H E hr =>
      (b_cons (s_if (t_cmp opLt_ok (o_name (pv 1)) (o_callB (s := false) opLen_ok (by rfl) T.n_len (by decide +kernel) (a_cons (o_name (pv 0)) a_nil)) (nomark _)) (b_one (s_ret (o_ix opIx_ok (o_name (pv 0)) (o_name (pv 1)) (fun _ _ => rfl))))
    b_nil)
      (b_cons (s_set (i := 2) (o_op2 opMod_ok (o_op2 opMul_ok (o_const pe_int) (o_op2 opAdd_ok (o_op2 opAdd_ok (o_op2 opMul_ok (o_name (pv 1)) (o_name (pv 1))) (o_op2 opMul_ok (o_const pe_int) (o_name (pv 1)))) (o_const pe_int))) (o_const pe_int)) (fun _ a => ps_set (i := 2) sc_law_cell.nd rfl (Or.inl rfl) a))
      (b_cons (s_for (i_val (o_slice opSl_ok (o_name (pv 0)) p_none (p_some (o_const pe_int)))) (g_name (pg_name (i := 3) sc_law_cell.nd rfl (Or.inl rfl)))
    (b_one (s_set (i := 2) (o_op2 opMod_ok (o_op2 opAdd_ok (o_op2 opMul_ok (o_name (pv 2)) (o_const pe_int)) (o_name (pv 3))) (o_const pe_int)) (fun _ a => ps_set (i := 2) sc_law_cell.nd rfl (Or.inl rfl) a))) (fun _ _ _ a b c => ps_for PassesOwn.never rfl a b c))
      (b_one (s_ret (o_name (pv 2)))))))
/-! ### _law_pool -/
def D_law_pool : FD := runF 1 2 ((fSeq (fSet 1 (fIf (fOr (fCmp opLt (fName 0) (fC (.int (0)))) (fCmp opGe (fName 0) (fC (.int (1000000000000000000))))) (fCall false opAbs (fCons (fName 0) fNil)) (fC (.int (0)))))
  (fRet (fLst (fCons (fDat (fOp2 true opMod (fName 0) (fC (.int (2147483269))))) (fCons (fDat (fName 1)) (fCons (fDat (fC (.int (0)))) fNil)))))))
theorem g_law_pool (T : Txt K mg) : Gives P w K mg base CX0 1 "_law_pool" (spF D_law_pool) := by
  exact givesF T.d_law_pool sc_law_pool rfl (by decide) (fun _ _ _ _ _ _ us hl => match us, hl with | [_], _ => rfl) fun f cdv A outer s H E hr =>
      (b_cons (s_set (i := 1) (o_if (t_w (w_or (t_cmp opLt_ok (o_name (pv 0)) (o_const pe_int) (nomark _)) (w_or1 (t_cmp opGe_ok (o_name (pv 0)) (o_const (pe_powc 1000000000000000000 ⟨by decide, by decide, by decide⟩ (by decide))) (nomark _))))) (o_callB (s := false) opAbs_ok (by rfl) T.n_abs (by decide +kernel) (a_cons (o_name (pv 0)) a_nil)) (o_const pe_int)) (fun _ a => ps_set (i := 1) sc_law_pool.nd rfl (Or.inl rfl) a))
      (b_one (s_ret (o_lst (a_consD (o_op2 opMod_ok (o_name (pv 0)) (o_const pe_int)) (a_consD (o_name (pv 1)) (a_consD (o_const pe_int) a_nil)))))))
/-! ### _law_draw -/
def D_law_draw : FD := runF 2 4 ((fSeq (fAsg (gSub' (fName 0) (fC (.int (2)))) (fOp2 true opAdd (fIx opIx (fName 0) (fC (.int (2)))) (fC (.int (1)))))
  (fSeq (fSet 2 (fIx opIx (fName 0) (fC (.int (0)))))
  (fSeq (fAsg (gSub' (fName 0) (fC (.int (0)))) (fOp2 true opMod (fOp2 true opAdd (fOp2 true opMul (fName 2) (fOp2 true opAdd (fOp2 true opMod (fName 2) (fC (.int (50033)))) (fC (.int (30011))))) (fOp2 true opMul (fC (.int (80039))) (fIx opIx (fName 0) (fC (.int (2)))))) (fC (.int (2147483269)))))
  (fSeq (fIfS (fCmp opGt (fIx opIx (fName 0) (fC (.int (1)))) (fC (.int (0)))) (fSeq (fAsg (gTup' 2 (gCons' (gSub' (fName 0) (fC (.int (1)))) (gCons' (gN' 3) gNil'))) (fCall false opDivmod (fCons (fIx opIx (fName 0) (fC (.int (1)))) (fCons (fName 1) fNil))))
  (fRet (fName 3)))
    fSkip)
  (fRet (fOp2 true opMod (fOp2 true opFdiv (fIx opIx (fName 0) (fC (.int (0)))) (fC (.int (64)))) (fName 1))))))))
theorem g_law_draw (T : Txt K mg) : Gives P w K mg base CX0 1 "_law_draw" (spF D_law_draw) := by
  exact givesF T.d_law_draw sc_law_draw rfl (by decide) (fun _ _ _ _ _ _ us hl => match us, hl with | [_, _], _ => rfl) fun f cdv A outer s H E hr =>
      (b_cons (s_asg (g_sub (o_name (pv 0)) (o_const pe_int) (fun _ _ a b => pg_sub a b set_list)) (o_op2 opAdd_ok (o_ix opIx_ok (o_name (pv 0)) (o_const pe_int) (fun _ _ => rfl)) (o_const pe_int)) (fun _ _ a b => ps_asg a b))
      (b_cons (s_set (i := 2) (o_ix opIx_ok (o_name (pv 0)) (o_const pe_int) (fun _ _ => rfl)) (fun _ a => ps_set (i := 2) sc_law_draw.nd rfl (Or.inl rfl) a))
      (b_cons (s_asg (g_sub (o_name (pv 0)) (o_const pe_int) (fun _ _ a b => pg_sub a b set_list)) (o_op2 opMod_ok (o_op2 opAdd_ok (o_op2 opMul_ok (o_name (pv 2)) (o_op2 opAdd_ok (o_op2 opMod_ok (o_name (pv 2)) (o_const pe_int)) (o_const pe_int))) (o_op2 opMul_ok (o_const pe_int) (o_ix opIx_ok (o_name (pv 0)) (o_const pe_int) (fun _ _ => rfl)))) (o_const pe_int)) (fun _ _ a b => ps_asg a b))
      (b_cons (s_if (t_cmp opGt_ok (o_ix opIx_ok (o_name (pv 0)) (o_const pe_int) (fun _ _ => rfl)) (o_const pe_int) (nomark _)) (b_cons (s_asg (g_tup (g_cons (g_sub (o_name (pv 0)) (o_const pe_int) (fun _ _ a b => pg_sub a b set_list)) (g_cons (g_name (pg_name (i := 3) sc_law_draw.nd rfl (Or.inl rfl))) g_nil)) (fun _ a => pg_tup (by rfl) a)) (o_callB (s := false) opDivmod_ok (by rfl) T.n_divmod (by decide +kernel) (a_cons (o_ix opIx_ok (o_name (pv 0)) (o_const pe_int) (fun _ _ => rfl)) (a_cons (o_name (pv 1)) a_nil))) (fun _ _ a b => ps_asg a b))
      (b_one (s_ret (o_name (pv 3)))))
    b_nil)
      (b_one (s_ret (o_op2 opMod_ok (o_op2 opFdiv_ok (o_ix opIx_ok (o_name (pv 0)) (o_const pe_int) (fun _ _ => rfl)) (o_const pe_int)) (o_name (pv 1)))))))))
/-! ### _law_figure -/
def D_law_figure : FD := runF 1 2 ((fSeq (fSet 1 (fLst (fCons (fDat (fC (.int (0)))) (fCons (fDat (fC (.int (1)))) (fCons (fDat (fOp2 true opSub (fC (.int (0))) (fC (.int (1))))) (fCons (fDat (fC (.int (2)))) (fCons (fDat (fOp2 true opSub (fC (.int (2147483648))) (fC (.int (1))))) (fCons (fDat (fOp2 true opSub (fC (.int (0))) (fC (.int (2147483648))))) (fCons (fDat (fC (.int (32)))) (fCons (fDat (fOp2 true opSub (fOwn D_law_draw (fCons (fName 0) (fCons (fDat (fC (.int (12)))) fNil))) (fC (.int (3))))) fNil))))))))))
  (fRet (fIx opIx (fOp2 true opAdd (fName 1) (fLst (fCons (fDat (fOp2 true opSub (fOwn D_law_draw (fCons (fName 0) (fCons (fDat (fC (.int (4294967296)))) fNil))) (fC (.int (2147483648))))) fNil))) (fOwn D_law_draw (fCons (fName 0) (fCons (fDat (fC (.int (9)))) fNil)))))))
theorem g_law_figure (T : Txt K mg) : Gives P w K mg base CX0 2 "_law_figure" (spF D_law_figure) := by
  have g_law_draw : Gives P w K mg base CX0 1 "_law_draw" (spF (D_law_draw)) := g_law_draw T
  exact givesF T.d_law_figure sc_law_figure rfl (by decide) (fun _ _ _ _ _ _ us hl => match us, hl with | [_], _ => rfl) fun f cdv A outer s H E hr =>
      (b_cons (s_set (i := 1) (o_lst (a_consD (o_const pe_int) (a_consD (o_const pe_int) (a_consD (o_op2 opSub_ok (o_const pe_int) (o_const pe_int)) (a_consD (o_const pe_int) (a_consD (o_op2 opSub_ok (o_const (pe_powc 2147483648 ⟨by decide, by decide, by decide⟩ (by decide))) (o_const pe_int)) (a_consD (o_op2 opSub_ok (o_const pe_int) (o_const (pe_powc 2147483648 ⟨by decide, by decide, by decide⟩ (by decide)))) (a_consD (o_const pe_int) (a_consD (o_op2 opSub_ok (o_own g_law_draw (hr.mono (by omega)) (by rfl) pass0 (a_cons (o_name (pv 0)) (a_consD (o_const pe_int) a_nil))) (o_const pe_int)) a_nil))))))))) (fun _ a => ps_set (i := 1) sc_law_figure.nd rfl (Or.inl rfl) a))
      (b_one (s_ret (o_ix opIx_ok (o_op2 opAdd_ok (o_name (pv 1)) (o_lst (a_consD (o_op2 opSub_ok (o_own g_law_draw (hr.mono (by omega)) (by rfl) pass0 (a_cons (o_name (pv 0)) (a_consD (o_const (pe_powc 4294967296 ⟨by decide, by decide, by decide⟩ (by decide))) a_nil))) (o_const (pe_powc 2147483648 ⟨by decide, by decide, by decide⟩ (by decide)))) a_nil))) (o_own g_law_draw (hr.mono (by omega)) (by rfl) pass0 (a_cons (o_name (pv 0)) (a_consD (o_const pe_int) a_nil))) (fun _ _ => rfl)))))
/-! ### _law_titles -/
def D_law_titles : FD := runF 2 6 ((fSeq (fSet 2 (fLst (fCons (fDat (fC (.str "add"))) (fCons (fDat (fC (.str "call"))) (fCons (fDat (fC (.str "func1"))) (fCons (fDat (fC (.str "main"))) (fCons (fDat (fC (.str "neg"))) (fCons (fDat (fC (.str "pop"))) (fCons (fDat (fC (.str "push"))) (fCons (fDat (fC (.str "word"))) (fCons (fDat (fC (.str "a"))) (fCons (fDat (fC (.str "a1"))) (fCons (fDat (fC (.str "aa"))) (fCons (fDat (fC (.str "z9"))) (fCons (fDat (fC (.str "zzzzzzzzzzzz"))) fNil)))))))))))))))
  (fSeq (fSet 2 (fOp2 true opAdd (fName 2) (fLst (fCons (fDat (fC (.str "load"))) fNil))))
  (fSeq (fSet 2 (fOp2 true opAdd (fName 2) (fLst (fCons (fDat (fC (.str "jump"))) (fCons (fDat (fC (.str "get"))) (fCons (fDat (fC (.str "x"))) (fCons (fDat (fC (.str "x0"))) (fCons (fDat (fC (.str "x00"))) (fCons (fDat (fC (.str "swap"))) (fCons (fDat (fC (.str "dup"))) (fCons (fDat (fC (.str "not"))) fNil)))))))))))
  (fSeq (fPar2 3 4 (fLst fNil) (fCall false opList (fCons (fName 2) fNil)))
  (fSeq (fFor (fbind (fCons (fName 1) fNil) fun rs => if rs.length = 1 then fRange (fpure rs) else fun _ => none) (gN' 5)
    (fDrop (fMut gAppend (fName 3) (fMut gPopAt (fName 4) (fOwn D_law_draw (fCons (fName 0) (fCons (fDat (fCall false opLen (fCons (fName 4) fNil))) fNil)))))))
  (fRet (fCall false opSorted (fCons (fName 3) fNil)))))))))
theorem g_law_titles (T : Txt K mg) : Gives P w K mg base CX0 2 "_law_titles" (spF D_law_titles) := by
  have g_law_draw : Gives P w K mg base CX0 1 "_law_draw" (spF (D_law_draw)) := g_law_draw T
  exact givesF T.d_law_titles sc_law_titles rfl (by decide) (fun _ _ _ _ _ _ us hl => match us, hl with | [_, _], _ => rfl) fun f cdv A outer s H E hr =>
      (b_cons (s_set (i := 2) (o_lst (a_consD (o_const pe_str) (a_consD (o_const pe_str) (a_consD (o_const pe_str) (a_consD (o_const pe_str) (a_consD (o_const pe_str) (a_consD (o_const pe_str) (a_consD (o_const pe_str) (a_consD (o_const pe_str) (a_consD (o_const pe_str) (a_consD (o_const pe_str) (a_consD (o_const pe_str) (a_consD (o_const pe_str) (a_consD (o_const pe_str) a_nil)))))))))))))) (fun _ a => ps_set (i := 2) sc_law_titles.nd rfl (Or.inl rfl) a))
      (b_cons (s_set (i := 2) (o_op2 opAdd_ok (o_name (pv 2)) (o_lst (a_consD (o_const pe_str) a_nil))) (fun _ a => ps_set (i := 2) sc_law_titles.nd rfl (Or.inl rfl) a))
      (b_cons (s_set (i := 2) (o_op2 opAdd_ok (o_name (pv 2)) (o_lst (a_consD (o_const pe_str) (a_consD (o_const pe_str) (a_consD (o_const pe_str) (a_consD (o_const pe_str) (a_consD (o_const pe_str) (a_consD (o_const pe_str) (a_consD (o_const pe_str) (a_consD (o_const pe_str) a_nil)))))))))) (fun _ a => ps_set (i := 2) sc_law_titles.nd rfl (Or.inl rfl) a))
      (b_cons (s_par (o_lst a_nil) (o_callTy (s := false) opList_ok (by rfl) T.n_list (by decide +kernel) (a_cons (o_name (pv 2)) a_nil)) (fun _ _ a b => ps_par (i := 3) (j := 4) (by rfl) sc_law_titles.nd rfl rfl (by decide) rfl rfl (pa_cons a (pa_cons b pa_nil)) (by rfl)))
      (b_cons (s_for (i_range1 (by rfl) T.n_range (a_cons (o_name (pv 1)) a_nil)) (g_name (pg_name (i := 5) sc_law_titles.nd rfl (Or.inl rfl)))
    (b_one (s_expr (o_append (o_name (pv 3)) (o_popAt (o_name (pv 4)) (o_own g_law_draw (hr.mono (by omega)) (by rfl) pass0 (a_cons (o_name (pv 0)) (a_consD (o_callB (s := false) opLen_ok (by rfl) T.n_len (by decide +kernel) (a_cons (o_name (pv 4)) a_nil)) a_nil))) (fun _ _ a b => pe_bm PySem.F.plainAttrs_list PySem.F.slot_list_pop PySem.F.type_list_pop mt_popAt a (pa_cons b pa_nil))) (fun _ _ a b => pe_bm PySem.F.plainAttrs_list PySem.F.slot_list_append PySem.F.type_list_append mt_append a (pa_cons b pa_nil))))) (fun _ _ _ a b c => ps_for PassesOwn.never rfl a b c))
      (b_one (s_ret (o_callB (s := false) opSorted_ok (by rfl) T.n_sorted (by decide +kernel) (a_cons (o_name (pv 3)) a_nil)))))))))
/-! ### _law_grow -/
def D_law_grow : FD := runF 3 13 ((fSeq (fAsg (gTup' 3 (gCons' (gN' 3) (gCons' (gN' 4) (gCons' (gN' 5) gNil')))) (fName 1))
  (fSeq (fSet 6 (fOwn D_law_draw (fCons (fName 0) (fCons (fDat (fC (.int (16)))) fNil))))
  (fSeq (fIfS (fAnd (fCmp opEq (fName 6) (fC (.int (4)))) (fCmp opNe (fName 4) (fLst fNil))) (fSeq (fAsg (gTup' 2 (gCons' (gN' 7) (gCons' (gN' 8) gNil'))) (fIx opIx (fName 4) (fOwn D_law_draw (fCons (fName 0) (fCons (fDat (fCall false opLen (fCons (fName 4) fNil))) fNil)))))
  (fSeq (fSet 9 (fTup (fCons (fDat (fC (.str "push"))) (fCons (fDat (fOwn D_law_draw (fCons (fName 0) (fCons (fDat (fOp2 true opAdd (fName 8) (fCall false opInt (fCons (fOp2 false opEq (fOwn D_law_draw (fCons (fName 0) (fCons (fDat (fC (.int (12)))) fNil))) (fC (.int (0)))) fNil)))) fNil)))) fNil))))
  (fSeq (fIfS (fCmp opEq (fOwn D_law_draw (fCons (fName 0) (fCons (fDat (fC (.int (2)))) fNil))) (fC (.int (0)))) (fRet (fTup (fCons (fDat (fLst (fCons (fDat (fName 9)) (fCons (fDat (fTup (fCons (fDat (fC (.str "get"))) (fCons (fDat (fName 7)) fNil)))) fNil)))) (fCons (fDat (fOp2 true opAdd (fName 2) (fC (.int (1))))) fNil))))
    fSkip)
  (fRet (fTup (fCons (fDat (fLst (fCons (fDat (fName 9)) (fCons (fDat (fTup (fCons (fDat (fC (.str "push"))) (fCons (fDat (fOwn D_law_figure (fCons (fName 0) fNil))) fNil)))) (fCons (fDat (fTup (fCons (fDat (fC (.str "set"))) (fCons (fDat (fName 7)) fNil)))) fNil))))) (fCons (fDat (fName 2)) fNil)))))))
    fSkip)
  (fSeq (fIfS (fAnd (fCmp opEq (fName 6) (fC (.int (5)))) (fCmp opNe (fName 5) (fLst fNil))) (fSeq (fAsg (gTup' 2 (gCons' (gN' 7) (gCons' (gN' 10) gNil'))) (fIx opIx (fName 5) (fOwn D_law_draw (fCons (fName 0) (fCons (fDat (fCall false opLen (fCons (fName 5) fNil))) fNil)))))
  (fRet (fTup (fCons (fDat (fOp2 true opAdd (fLc (fbind (fCons (fName 10) fNil) fun rs => if rs.length = 1 then fRange (fpure rs) else fun _ => none) (gN' 11) (fpure true) (fDat (fTup (fCons (fDat (fC (.str "push"))) (fCons (fDat (fOwn D_law_figure (fCons (fName 0) fNil))) fNil)))) [11]) (fLst (fCons (fDat (fTup (fCons (fDat (fC (.str "call"))) (fCons (fDat (fName 7)) fNil)))) fNil)))) (fCons (fDat (fOp2 true opAdd (fName 2) (fC (.int (1))))) fNil)))))
    fSkip)
  (fSeq (fIfS (fOr (fCmp opLt (fName 6) (fC (.int (6)))) (fCmp opEq (fName 2) (fC (.int (0))))) (fSeq (fIfS (fAnd (fCmp opGt (fName 3) (fC (.int (0)))) (fCmp opEq (fOwn D_law_draw (fCons (fName 0) (fCons (fDat (fC (.int (2)))) fNil))) (fC (.int (0))))) (fRet (fTup (fCons (fDat (fLst (fCons (fDat (fTup (fCons (fDat (fC (.str "load"))) (fCons (fDat (fOwn D_law_draw (fCons (fName 0) (fCons (fDat (fName 3)) fNil)))) fNil)))) fNil))) (fCons (fDat (fOp2 true opAdd (fName 2) (fC (.int (1))))) fNil))))
    fSkip)
  (fRet (fTup (fCons (fDat (fLst (fCons (fDat (fTup (fCons (fDat (fC (.str "push"))) (fCons (fDat (fOwn D_law_figure (fCons (fName 0) fNil))) fNil)))) fNil))) (fCons (fDat (fOp2 true opAdd (fName 2) (fC (.int (1))))) fNil)))))
    fSkip)
  (fSeq (fIfS (fCmp opEq (fName 6) (fC (.int (6)))) (fRet (fTup (fCons (fDat (fLst (fCons (fDat (fTup (fCons (fDat (fC (.str "dup"))) fNil))) fNil))) (fCons (fDat (fOp2 true opAdd (fName 2) (fC (.int (1))))) fNil))))
    fSkip)
  (fSeq (fIfS (fCmp opEq (fName 6) (fC (.int (7)))) (fRet (fTup (fCons (fDat (fLst (fCons (fDat (fIx opIx (fLst (fCons (fDat (fTup (fCons (fDat (fC (.str "put"))) fNil))) (fCons (fDat (fTup (fCons (fDat (fC (.str "pop"))) fNil))) fNil))) (fCall false opInt (fCons (fOp2 false opEq (fOwn D_law_draw (fCons (fName 0) (fCons (fDat (fC (.int (4)))) fNil))) (fC (.int (0)))) fNil)))) fNil))) (fCons (fDat (fOp2 true opSub (fName 2) (fC (.int (1))))) fNil))))
    fSkip)
  (fSeq (fIfS (fAnd (fCmp opEq (fName 6) (fC (.int (8)))) (fCmp opGt (fName 3) (fC (.int (0))))) (fRet (fTup (fCons (fDat (fLst (fCons (fDat (fTup (fCons (fDat (fC (.str "store"))) (fCons (fDat (fOwn D_law_draw (fCons (fName 0) (fCons (fDat (fName 3)) fNil)))) fNil)))) fNil))) (fCons (fDat (fOp2 true opSub (fName 2) (fC (.int (1))))) fNil))))
    fSkip)
  (fSeq (fIfS (fOr (fCmp opEq (fName 2) (fC (.int (1)))) (fCmp opEq (fName 6) (fC (.int (9))))) (fRet (fTup (fCons (fDat (fLst (fCons (fDat (fIx opIx (fLst (fCons (fDat (fTup (fCons (fDat (fC (.str "swap"))) fNil))) (fCons (fDat (fTup (fCons (fDat (fC (.str "neg"))) fNil))) (fCons (fDat (fTup (fCons (fDat (fC (.str "not"))) fNil))) fNil)))) (fIf (fCmp opGt (fName 2) (fC (.int (1)))) (fOwn D_law_draw (fCons (fName 0) (fCons (fDat (fC (.int (3)))) fNil))) (fOp2 true opAdd (fC (.int (1))) (fOwn D_law_draw (fCons (fName 0) (fCons (fDat (fC (.int (2)))) fNil))))))) fNil))) (fCons (fDat (fName 2)) fNil))))
    fSkip)
  (fSeq (fSet 12 (fLst (fCons (fDat (fC (.str "add"))) (fCons (fDat (fC (.str "sub"))) (fCons (fDat (fC (.str "mul"))) (fCons (fDat (fC (.str "lt"))) (fCons (fDat (fC (.str "le"))) (fCons (fDat (fC (.str "gt"))) (fCons (fDat (fC (.str "ge"))) (fCons (fDat (fC (.str "eq"))) (fCons (fDat (fC (.str "ne"))) (fCons (fDat (fC (.str "and"))) (fCons (fDat (fC (.str "or"))) (fCons (fDat (fC (.str "xor"))) (fCons (fDat (fC (.str "shl"))) (fCons (fDat (fC (.str "shr"))) (fCons (fDat (fC (.str "div"))) (fCons (fDat (fC (.str "rem"))) fNil))))))))))))))))))
  (fRet (fTup (fCons (fDat (fLst (fCons (fDat (fTup (fCons (fDat (fIx opIx (fName 12) (fOwn D_law_draw (fCons (fName 0) (fCons (fDat (fC (.int (16)))) fNil))))) fNil))) fNil))) (fCons (fDat (fOp2 true opSub (fName 2) (fC (.int (1))))) fNil)))))))))))))))
theorem g_law_grow (T : Txt K mg) : Gives P w K mg base CX0 3 "_law_grow" (spF D_law_grow) := by
  have g_law_draw : Gives P w K mg base CX0 1 "_law_draw" (spF (D_law_draw)) := g_law_draw T
  have g_law_figure : Gives P w K mg base CX0 2 "_law_figure" (spF (D_law_figure)) := g_law_figure T
  exact givesF T.d_law_grow sc_law_grow rfl (by decide) (fun _ _ _ _ _ _ us hl => match us, hl with | [_, _, _], _ => rfl) fun f cdv A outer s H E hr =>
      (b_cons (s_asg (g_tup (g_cons (g_name (pg_name (i := 3) sc_law_grow.nd rfl (Or.inl rfl))) (g_cons (g_name (pg_name (i := 4) sc_law_grow.nd rfl (Or.inl rfl))) (g_cons (g_name (pg_name (i := 5) sc_law_grow.nd rfl (Or.inl rfl))) g_nil))) (fun _ a => pg_tup (by rfl) a)) (o_name (pv 1)) (fun _ _ a b => ps_asg a b))
      (b_cons (s_set (i := 6) (o_own g_law_draw (hr.mono (by omega)) (by rfl) pass0 (a_cons (o_name (pv 0)) (a_consD (o_const pe_int) a_nil))) (fun _ a => ps_set (i := 6) sc_law_grow.nd rfl (Or.inl rfl) a))
      (b_cons (s_if (t_w (w_and (t_cmp (opEq_ok (units64 hr)) (o_name (pv 6)) (o_const pe_int) (nomark _)) (w_and1 (t_cmp (opNe_ok (units64 hr)) (o_name (pv 4)) (o_lst a_nil) (nomark _))))) (b_cons (s_asg (g_tup (g_cons (g_name (pg_name (i := 7) sc_law_grow.nd rfl (Or.inl rfl))) (g_cons (g_name (pg_name (i := 8) sc_law_grow.nd rfl (Or.inl rfl))) g_nil)) (fun _ a => pg_tup (by rfl) a)) (o_ix opIx_ok (o_name (pv 4)) (o_own g_law_draw (hr.mono (by omega)) (by rfl) pass0 (a_cons (o_name (pv 0)) (a_consD (o_callB (s := false) opLen_ok (by rfl) T.n_len (by decide +kernel) (a_cons (o_name (pv 4)) a_nil)) a_nil))) (fun _ _ => rfl)) (fun _ _ a b => ps_asg a b))
      (b_cons (s_set (i := 9) (o_tup (a_consD (o_const pe_str) (a_consD (o_own g_law_draw (hr.mono (by omega)) (by rfl) pass0 (a_cons (o_name (pv 0)) (a_consD (o_op2 opAdd_ok (o_name (pv 8)) (o_callTy (s := false) opInt_ok (by rfl) T.n_int (by decide +kernel) (a_cons (o_cmp (opEq_ok (units64 hr)) (o_own g_law_draw (hr.mono (by omega)) (by rfl) pass0 (a_cons (o_name (pv 0)) (a_consD (o_const pe_int) a_nil))) (o_const pe_int) (nomark _)) a_nil))) a_nil))) a_nil))) (fun _ a => ps_set (i := 9) sc_law_grow.nd rfl (Or.inl rfl) a))
      (b_cons (s_if (t_cmp (opEq_ok (units64 hr)) (o_own g_law_draw (hr.mono (by omega)) (by rfl) pass0 (a_cons (o_name (pv 0)) (a_consD (o_const pe_int) a_nil))) (o_const pe_int) (nomark _)) (b_one (s_ret (o_tup (a_consD (o_lst (a_consD (o_name (pv 9)) (a_consD (o_tup (a_consD (o_const pe_str) (a_consD (o_name (pv 7)) a_nil))) a_nil))) (a_consD (o_op2 opAdd_ok (o_name (pv 2)) (o_const pe_int)) a_nil)))))
    b_nil)
      (b_one (s_ret (o_tup (a_consD (o_lst (a_consD (o_name (pv 9)) (a_consD (o_tup (a_consD (o_const pe_str) (a_consD (o_own g_law_figure (hr.mono (by omega)) (by rfl) pass0 (a_cons (o_name (pv 0)) a_nil)) a_nil))) (a_consD (o_tup (a_consD (o_const pe_str) (a_consD (o_name (pv 7)) a_nil))) a_nil)))) (a_consD (o_name (pv 2)) a_nil))))))))
    b_nil)
      (b_cons (s_if (t_w (w_and (t_cmp (opEq_ok (units64 hr)) (o_name (pv 6)) (o_const pe_int) (nomark _)) (w_and1 (t_cmp (opNe_ok (units64 hr)) (o_name (pv 5)) (o_lst a_nil) (nomark _))))) (b_cons (s_asg (g_tup (g_cons (g_name (pg_name (i := 7) sc_law_grow.nd rfl (Or.inl rfl))) (g_cons (g_name (pg_name (i := 10) sc_law_grow.nd rfl (Or.inl rfl))) g_nil)) (fun _ a => pg_tup (by rfl) a)) (o_ix opIx_ok (o_name (pv 5)) (o_own g_law_draw (hr.mono (by omega)) (by rfl) pass0 (a_cons (o_name (pv 0)) (a_consD (o_callB (s := false) opLen_ok (by rfl) T.n_len (by decide +kernel) (a_cons (o_name (pv 5)) a_nil)) a_nil))) (fun _ _ => rfl)) (fun _ _ a b => ps_asg a b))
      (b_one (s_ret (o_tup (a_consD (o_op2 opAdd_ok (o_lc (own := [("_law_turn", 11)]) rfl sc_law_grow.nd (i_range1 (by rfl) T.n_range (a_cons (o_name (pv 10)) a_nil)) (blkOk_by (N := ["_law_pool_here", "_law_room", "_law_high", "_law_slots", "_law_cells", "_law_titles_here", "_law_way", "_law_title", "_law_size", "_law_spot", "_law_many", "_law_turn", "_law_ways"]) (sc := defScope s_law_grow) (by decide +kernel)) (fun _ _ _ _ _ => (g_name (pg_name (i := 11) sc_law_grow.nd rfl (Or.inl rfl)))) (fun _ _ _ _ _ => ts_nil) (fun _ _ _ _ _ => (o_tup (a_consD (o_const pe_str) (a_consD (o_own g_law_figure (hr.mono (by omega)) (by rfl) pass0 (a_cons (o_name (pv 0)) a_nil)) a_nil))))) (o_lst (a_consD (o_tup (a_consD (o_const pe_str) (a_consD (o_name (pv 7)) a_nil))) a_nil))) (a_consD (o_op2 opAdd_ok (o_name (pv 2)) (o_const pe_int)) a_nil))))))
    b_nil)
      (b_cons (s_if (t_w (w_or (t_cmp opLt_ok (o_name (pv 6)) (o_const pe_int) (nomark _)) (w_or1 (t_cmp (opEq_ok (units64 hr)) (o_name (pv 2)) (o_const pe_int) (nomark _))))) (b_cons (s_if (t_w (w_and (t_cmp opGt_ok (o_name (pv 3)) (o_const pe_int) (nomark _)) (w_and1 (t_cmp (opEq_ok (units64 hr)) (o_own g_law_draw (hr.mono (by omega)) (by rfl) pass0 (a_cons (o_name (pv 0)) (a_consD (o_const pe_int) a_nil))) (o_const pe_int) (nomark _))))) (b_one (s_ret (o_tup (a_consD (o_lst (a_consD (o_tup (a_consD (o_const pe_str) (a_consD (o_own g_law_draw (hr.mono (by omega)) (by rfl) pass0 (a_cons (o_name (pv 0)) (a_consD (o_name (pv 3)) a_nil))) a_nil))) a_nil)) (a_consD (o_op2 opAdd_ok (o_name (pv 2)) (o_const pe_int)) a_nil)))))
    b_nil)
      (b_one (s_ret (o_tup (a_consD (o_lst (a_consD (o_tup (a_consD (o_const pe_str) (a_consD (o_own g_law_figure (hr.mono (by omega)) (by rfl) pass0 (a_cons (o_name (pv 0)) a_nil)) a_nil))) a_nil)) (a_consD (o_op2 opAdd_ok (o_name (pv 2)) (o_const pe_int)) a_nil))))))
    b_nil)
      (b_cons (s_if (t_cmp (opEq_ok (units64 hr)) (o_name (pv 6)) (o_const pe_int) (nomark _)) (b_one (s_ret (o_tup (a_consD (o_lst (a_consD (o_tup (a_consD (o_const pe_str) a_nil)) a_nil)) (a_consD (o_op2 opAdd_ok (o_name (pv 2)) (o_const pe_int)) a_nil)))))
    b_nil)
      (b_cons (s_if (t_cmp (opEq_ok (units64 hr)) (o_name (pv 6)) (o_const pe_int) (nomark _)) (b_one (s_ret (o_tup (a_consD (o_lst (a_consD (o_ix opIx_ok (o_lst (a_consD (o_tup (a_consD (o_const pe_str) a_nil)) (a_consD (o_tup (a_consD (o_const pe_str) a_nil)) a_nil))) (o_callTy (s := false) opInt_ok (by rfl) T.n_int (by decide +kernel) (a_cons (o_cmp (opEq_ok (units64 hr)) (o_own g_law_draw (hr.mono (by omega)) (by rfl) pass0 (a_cons (o_name (pv 0)) (a_consD (o_const pe_int) a_nil))) (o_const pe_int) (nomark _)) a_nil)) (fun _ _ => rfl)) a_nil)) (a_consD (o_op2 opSub_ok (o_name (pv 2)) (o_const pe_int)) a_nil)))))
    b_nil)
      (b_cons (s_if (t_w (w_and (t_cmp (opEq_ok (units64 hr)) (o_name (pv 6)) (o_const pe_int) (nomark _)) (w_and1 (t_cmp opGt_ok (o_name (pv 3)) (o_const pe_int) (nomark _))))) (b_one (s_ret (o_tup (a_consD (o_lst (a_consD (o_tup (a_consD (o_const pe_str) (a_consD (o_own g_law_draw (hr.mono (by omega)) (by rfl) pass0 (a_cons (o_name (pv 0)) (a_consD (o_name (pv 3)) a_nil))) a_nil))) a_nil)) (a_consD (o_op2 opSub_ok (o_name (pv 2)) (o_const pe_int)) a_nil)))))
    b_nil)
      (b_cons (s_if (t_w (w_or (t_cmp (opEq_ok (units64 hr)) (o_name (pv 2)) (o_const pe_int) (nomark _)) (w_or1 (t_cmp (opEq_ok (units64 hr)) (o_name (pv 6)) (o_const pe_int) (nomark _))))) (b_one (s_ret (o_tup (a_consD (o_lst (a_consD (o_ix opIx_ok (o_lst (a_consD (o_tup (a_consD (o_const pe_str) a_nil)) (a_consD (o_tup (a_consD (o_const pe_str) a_nil)) (a_consD (o_tup (a_consD (o_const pe_str) a_nil)) a_nil)))) (o_if (t_cmp opGt_ok (o_name (pv 2)) (o_const pe_int) (nomark _)) (o_own g_law_draw (hr.mono (by omega)) (by rfl) pass0 (a_cons (o_name (pv 0)) (a_consD (o_const pe_int) a_nil))) (o_op2 opAdd_ok (o_const pe_int) (o_own g_law_draw (hr.mono (by omega)) (by rfl) pass0 (a_cons (o_name (pv 0)) (a_consD (o_const pe_int) a_nil))))) (fun _ _ => rfl)) a_nil)) (a_consD (o_name (pv 2)) a_nil)))))
    b_nil)
      (b_cons (s_set (i := 12) (o_lst (a_consD (o_const pe_str) (a_consD (o_const pe_str) (a_consD (o_const pe_str) (a_consD (o_const pe_str) (a_consD (o_const pe_str) (a_consD (o_const pe_str) (a_consD (o_const pe_str) (a_consD (o_const pe_str) (a_consD (o_const pe_str) (a_consD (o_const pe_str) (a_consD (o_const pe_str) (a_consD (o_const pe_str) (a_consD (o_const pe_str) (a_consD (o_const pe_str) (a_consD (o_const pe_str) (a_consD (o_const pe_str) a_nil))))))))))))))))) (fun _ a => ps_set (i := 12) sc_law_grow.nd rfl (Or.inl rfl) a))
      (b_one (s_ret (o_tup (a_consD (o_lst (a_consD (o_tup (a_consD (o_ix opIx_ok (o_name (pv 12)) (o_own g_law_draw (hr.mono (by omega)) (by rfl) pass0 (a_cons (o_name (pv 0)) (a_consD (o_const pe_int) a_nil))) (fun _ _ => rfl)) a_nil)) a_nil)) (a_consD (o_op2 opSub_ok (o_name (pv 2)) (o_const pe_int)) a_nil)))))))))))))))
/-! ### _law_block -/
def D_law_block : FD := runF 4 10 ((fSeq (fPar2 4 5 (fLst fNil) (fC (.int (0))))
  (fSeq (fFor (fbind (fCons (fOwn D_law_draw (fCons (fName 0) (fCons (fDat (fC (.int (7)))) fNil))) fNil) fun rs => if rs.length = 1 then fRange (fpure rs) else fun _ => none) (gN' 6)
    (fSeq (fAsg (gTup' 2 (gCons' (gN' 7) (gCons' (gN' 5) gNil'))) (fOwn D_law_grow (fCons (fName 0) (fCons (fDat (fName 1)) (fCons (fDat (fName 5)) fNil)))))
  (fDrop (fMutV gExtend (fName 4) (fName 7)))))
  (fSeq (fSet 8 (fIx opIx (fLst (fCons (fDat (fC (.str "jumpif"))) (fCons (fDat (fC (.str "jumpif"))) (fCons (fDat (fC (.str "jump"))) (fCons (fDat (fC (.str "return"))) (fCons (fDat (fC (.str "go"))) (fCons (fDat (fC (.str "trap"))) fNil))))))) (fOwn D_law_draw (fCons (fName 0) (fCons (fDat (fC (.int (6)))) fNil)))))
  (fSeq (fSet 8 (fIf (fAnd (fTru (fName 3)) (fCmp opIn (fName 8) (fTup (fCons (fDat (fC (.str "jumpif"))) (fCons (fDat (fC (.str "go"))) fNil))))) (fC (.str "return")) (fName 8)))
  (fSeq (fSet 9 (fCall false opInt (fCons (fOp2 false opIn (fName 8) (fTup (fCons (fDat (fC (.str "jumpif"))) (fCons (fDat (fC (.str "return"))) fNil)))) fNil)))
  (fSeq (whileF (fAnd (fCmp opNe (fName 8) (fC (.str "trap"))) (fCmp opNe (fName 5) (fName 9)))
    (fIfS (fCmp opLt (fName 5) (fName 9)) (fSeq (fDrop (fMut gAppend (fName 4) (fTup (fCons (fDat (fC (.str "push"))) (fCons (fDat (fOwn D_law_figure (fCons (fName 0) fNil))) fNil)))))
  (fSet 5 (fOp2 true opAdd (fName 5) (fC (.int (1))))))
    (fSeq (fDrop (fMut gAppend (fName 4) (fIx opIx (fLst (fCons (fDat (fTup (fCons (fDat (fC (.str "put"))) fNil))) (fCons (fDat (fTup (fCons (fDat (fC (.str "pop"))) fNil))) (fCons (fDat (fTup (fCons (fDat (fC (.str "put"))) fNil))) fNil)))) (fOwn D_law_draw (fCons (fName 0) (fCons (fDat (fC (.int (3)))) fNil))))))
  (fSet 5 (fOp2 true opSub (fName 5) (fC (.int (1))))))) 1000)
  (fSeq (fIfS (fCmp opIn (fName 8) (fTup (fCons (fDat (fC (.str "jump"))) (fCons (fDat (fC (.str "jumpif"))) fNil)))) (fDrop (fMut gAppend (fName 4) (fTup (fCons (fDat (fName 8)) (fCons (fDat (fOwn D_law_draw (fCons (fName 0) (fCons (fDat (fName 2)) fNil)))) fNil)))))
    (fIfS (fCmp opNe (fName 8) (fC (.str "go"))) (fDrop (fMut gAppend (fName 4) (fTup (fCons (fDat (fName 8)) fNil))))
    fSkip))
  (fRet (fName 4))))))))))
theorem g_law_block (T : Txt K mg) : Gives P w K mg base CX0 4 "_law_block" (spF D_law_block) := by
  have g_law_draw : Gives P w K mg base CX0 1 "_law_draw" (spF (D_law_draw)) := g_law_draw T
  have g_law_figure : Gives P w K mg base CX0 2 "_law_figure" (spF (D_law_figure)) := g_law_figure T
  have g_law_grow : Gives P w K mg base CX0 3 "_law_grow" (spF (D_law_grow)) := g_law_grow T
  exact givesF T.d_law_block sc_law_block rfl (by decide) (fun _ _ _ _ _ _ us hl => match us, hl with | [_, _, _, _], _ => rfl) fun f cdv A outer s H E hr =>
      (b_cons (s_par (o_lst a_nil) (o_const pe_int) (fun _ _ a b => ps_par (i := 4) (j := 5) (by rfl) sc_law_block.nd rfl rfl (by decide) rfl rfl (pa_cons a (pa_cons b pa_nil)) (by rfl)))
      (b_cons (s_for (i_range1 (by rfl) T.n_range (a_cons (o_own g_law_draw (hr.mono (by omega)) (by rfl) pass0 (a_cons (o_name (pv 0)) (a_consD (o_const pe_int) a_nil))) a_nil)) (g_name (pg_name (i := 6) sc_law_block.nd rfl (Or.inl rfl)))
    (b_cons (s_asg (g_tup (g_cons (g_name (pg_name (i := 7) sc_law_block.nd rfl (Or.inl rfl))) (g_cons (g_name (pg_name (i := 5) sc_law_block.nd rfl (Or.inl rfl))) g_nil)) (fun _ a => pg_tup (by rfl) a)) (o_own g_law_grow (hr.mono (by omega)) (by rfl) pass0 (a_cons (o_name (pv 0)) (a_consD (o_name (pv 1)) (a_consD (o_name (pv 5)) a_nil)))) (fun _ _ a b => ps_asg a b))
      (b_one (s_expr (o_extend (o_name (pv 4)) (o_name (pv 7)) (fun _ _ a b => pe_bm PySem.F.plainAttrs_list PySem.F.slot_list_extend PySem.F.type_list_extend mt_extend a (pa_cons b pa_nil)))))) (fun _ _ _ a b c => ps_for PassesOwn.never rfl a b c))
      (b_cons (s_set (i := 8) (o_ix opIx_ok (o_lst (a_consD (o_const pe_str) (a_consD (o_const pe_str) (a_consD (o_const pe_str) (a_consD (o_const pe_str) (a_consD (o_const pe_str) (a_consD (o_const pe_str) a_nil))))))) (o_own g_law_draw (hr.mono (by omega)) (by rfl) pass0 (a_cons (o_name (pv 0)) (a_consD (o_const pe_int) a_nil))) (fun _ _ => rfl)) (fun _ a => ps_set (i := 8) sc_law_block.nd rfl (Or.inl rfl) a))
      (b_cons (s_set (i := 8) (o_if (t_w (w_and (t_truth (o_name (pv 3))) (w_and1 (t_cmp (opIn_ok (units1 hr)) (o_name (pv 8)) (o_tup (a_consD (o_const pe_str) (a_consD (o_const pe_str) a_nil))) (by rfl))))) (o_const pe_str) (o_name (pv 8))) (fun _ a => ps_set (i := 8) sc_law_block.nd rfl (Or.inl rfl) a))
      (b_cons (s_set (i := 9) (o_callTy (s := false) opInt_ok (by rfl) T.n_int (by decide +kernel) (a_cons (o_cmp (opIn_ok (units1 hr)) (o_name (pv 8)) (o_tup (a_consD (o_const pe_str) (a_consD (o_const pe_str) a_nil))) (by rfl)) a_nil)) (fun _ a => ps_set (i := 9) sc_law_block.nd rfl (Or.inl rfl) a))
      (b_cons (s_while 1000 (t_w (w_and (t_cmp (opNe_ok (units64 hr)) (o_name (pv 8)) (o_const pe_str) (nomark _)) (w_and1 (t_cmp (opNe_ok (units64 hr)) (o_name (pv 5)) (o_name (pv 9)) (nomark _)))))
    (b_one (s_if (t_cmp opLt_ok (o_name (pv 5)) (o_name (pv 9)) (nomark _)) (b_cons (s_expr (o_append (o_name (pv 4)) (o_tup (a_consD (o_const pe_str) (a_consD (o_own g_law_figure (hr.mono (by omega)) (by rfl) pass0 (a_cons (o_name (pv 0)) a_nil)) a_nil))) (fun _ _ a b => pe_bm PySem.F.plainAttrs_list PySem.F.slot_list_append PySem.F.type_list_append mt_append a (pa_cons b pa_nil))))
      (b_one (s_set (i := 5) (o_op2 opAdd_ok (o_name (pv 5)) (o_const pe_int)) (fun _ a => ps_set (i := 5) sc_law_block.nd rfl (Or.inl rfl) a))))
    (b_cons (s_expr (o_append (o_name (pv 4)) (o_ix opIx_ok (o_lst (a_consD (o_tup (a_consD (o_const pe_str) a_nil)) (a_consD (o_tup (a_consD (o_const pe_str) a_nil)) (a_consD (o_tup (a_consD (o_const pe_str) a_nil)) a_nil)))) (o_own g_law_draw (hr.mono (by omega)) (by rfl) pass0 (a_cons (o_name (pv 0)) (a_consD (o_const pe_int) a_nil))) (fun _ _ => rfl)) (fun _ _ a b => pe_bm PySem.F.plainAttrs_list PySem.F.slot_list_append PySem.F.type_list_append mt_append a (pa_cons b pa_nil))))
      (b_one (s_set (i := 5) (o_op2 opSub_ok (o_name (pv 5)) (o_const pe_int)) (fun _ a => ps_set (i := 5) sc_law_block.nd rfl (Or.inl rfl) a)))))) (fun _ _ a b => ps_while PassesOwn.never a b))
      (b_cons (s_if (t_cmp (opIn_ok (units1 hr)) (o_name (pv 8)) (o_tup (a_consD (o_const pe_str) (a_consD (o_const pe_str) a_nil))) (by rfl)) (b_one (s_expr (o_append (o_name (pv 4)) (o_tup (a_consD (o_name (pv 8)) (a_consD (o_own g_law_draw (hr.mono (by omega)) (by rfl) pass0 (a_cons (o_name (pv 0)) (a_consD (o_name (pv 2)) a_nil))) a_nil))) (fun _ _ a b => pe_bm PySem.F.plainAttrs_list PySem.F.slot_list_append PySem.F.type_list_append mt_append a (pa_cons b pa_nil)))))
    (b_one (s_if (t_cmp (opNe_ok (units64 hr)) (o_name (pv 8)) (o_const pe_str) (nomark _)) (b_one (s_expr (o_append (o_name (pv 4)) (o_tup (a_consD (o_name (pv 8)) a_nil)) (fun _ _ a b => pe_bm PySem.F.plainAttrs_list PySem.F.slot_list_append PySem.F.type_list_append mt_append a (pa_cons b pa_nil)))))
    b_nil)))
      (b_one (s_ret (o_name (pv 4)))))))))))
/-! ### _law_sound -/
def D_law_sound : FD := runF 5 12 ((fSeq (fSet 5 (fLc (fbind (fCons (fName 4) fNil) fun rs => if rs.length = 1 then fRange (fpure rs) else fun _ => none) (gN' 6) (fpure true) (fDat (fOwn D_law_block (fCons (fName 0) (fCons (fDat (fName 3)) (fCons (fDat (fName 4)) (fCons (fDat (fOp2 false opEq (fName 6) (fOp2 true opSub (fName 4) (fC (.int (1)))))) fNil)))))) [6]))
  (fSeq (fPar2 7 8 (fLst fNil) (fLst fNil))
  (fSeq (fFor (fIter (fName 5)) (gN' 9)
    (fSeq (fDrop (fMut gAppend (fName 7) (fCall false opLen (fCons (fName 8) fNil))))
  (fDrop (fMutV gExtend (fName 8) (fName 9)))))
  (fSeq (fSet 10 (fLst fNil))
  (fSeq (fFor (fIter (fName 8)) (gN' 11)
    (fDrop (fMut gAppend (fName 10) (fIf (fCmp opIn (fIx opIx (fName 11) (fC (.int (0)))) (fTup (fCons (fDat (fC (.str "jump"))) (fCons (fDat (fC (.str "jumpif"))) fNil)))) (fTup (fCons (fDat (fIx opIx (fName 11) (fC (.int (0))))) (fCons (fDat (fIx opIx (fName 7) (fIx opIx (fName 11) (fC (.int (1)))))) fNil))) (fName 11)))))
  (fRet (fTup (fCons (fDat (fName 1)) (fCons (fDat (fName 2)) (fCons (fDat (fIx opIx (fName 3) (fC (.int (0))))) (fCons (fDat (fCall true opTuple (fCons (fDat (fName 10)) fNil))) fNil))))))))))))
theorem g_law_sound (T : Txt K mg) : Gives P w K mg base CX0 5 "_law_sound" (spF D_law_sound) := by
  have g_law_block : Gives P w K mg base CX0 4 "_law_block" (spF (D_law_block)) := g_law_block T
  exact givesF T.d_law_sound sc_law_sound rfl (by decide) (fun _ _ _ _ _ _ us hl => match us, hl with | [_, _, _, _, _], _ => rfl) fun f cdv A outer s H E hr =>
      (b_cons (s_setLc (i := 5) (own := [("_law_k", 6)]) rfl sc_law_sound.nd rfl rfl (sw_true rfl rfl rfl (by decide +kernel)) (i_range1 (by rfl) T.n_range (a_cons (o_name (pv 4)) a_nil)) (blkOk_by (N := ["_law_pool_here", "_law_title", "_law_params", "_law_room", "_law_many", "_law_blocks", "_law_k", "_law_spots", "_law_rows", "_law_block_here", "_law_found", "_law_row"]) (sc := defScope s_law_sound) (by decide +kernel)) (fun _ _ _ _ _ => (g_name (pg_name (i := 6) sc_law_sound.nd rfl (Or.inl rfl)))) (fun _ _ _ _ _ => ts_nil) (fun _ _ _ _ _ => (o_own g_law_block (hr.mono (by omega)) (by rfl) pass0 (a_cons (o_name (pv 0)) (a_consD (o_name (pv 3)) (a_consD (o_name (pv 4)) (a_consD (o_cmp (opEq_ok (units64 hr)) (o_name (pv 6)) (o_op2 opSub_ok (o_name (pv 4)) (o_const pe_int)) (nomark _)) a_nil)))))))
      (b_cons (s_par (o_lst a_nil) (o_lst a_nil) (fun _ _ a b => ps_par (i := 7) (j := 8) (by rfl) sc_law_sound.nd rfl rfl (by decide) rfl rfl (pa_cons a (pa_cons b pa_nil)) (by rfl)))
      (b_cons (s_for (i_val (o_name (pv 5))) (g_name (pg_name (i := 9) sc_law_sound.nd rfl (Or.inl rfl)))
    (b_cons (s_expr (o_append (o_name (pv 7)) (o_callB (s := false) opLen_ok (by rfl) T.n_len (by decide +kernel) (a_cons (o_name (pv 8)) a_nil)) (fun _ _ a b => pe_bm PySem.F.plainAttrs_list PySem.F.slot_list_append PySem.F.type_list_append mt_append a (pa_cons b pa_nil))))
      (b_one (s_expr (o_extend (o_name (pv 8)) (o_name (pv 9)) (fun _ _ a b => pe_bm PySem.F.plainAttrs_list PySem.F.slot_list_extend PySem.F.type_list_extend mt_extend a (pa_cons b pa_nil)))))) (fun _ _ _ a b c => ps_for PassesOwn.never rfl a b c))
      (b_cons (s_set (i := 10) (o_lst a_nil) (fun _ a => ps_set (i := 10) sc_law_sound.nd rfl (Or.inl rfl) a))
      (b_cons (s_for (i_val (o_name (pv 8))) (g_name (pg_name (i := 11) sc_law_sound.nd rfl (Or.inl rfl)))
    (b_one (s_expr (o_append (o_name (pv 10)) (o_if (t_cmp (opIn_ok (units1 hr)) (o_ix opIx_ok (o_name (pv 11)) (o_const pe_int) (fun _ _ => rfl)) (o_tup (a_consD (o_const pe_str) (a_consD (o_const pe_str) a_nil))) (by rfl)) (o_tup (a_consD (o_ix opIx_ok (o_name (pv 11)) (o_const pe_int) (fun _ _ => rfl)) (a_consD (o_ix opIx_ok (o_name (pv 7)) (o_ix opIx_ok (o_name (pv 11)) (o_const pe_int) (fun _ _ => rfl)) (fun _ _ => rfl)) a_nil))) (o_name (pv 11))) (fun _ _ a b => pe_bm PySem.F.plainAttrs_list PySem.F.slot_list_append PySem.F.type_list_append mt_append a (pa_cons b pa_nil))))) (fun _ _ _ a b c => ps_for PassesOwn.never rfl a b c))
      (b_one (s_ret (o_tup (a_consD (o_name (pv 1)) (a_consD (o_name (pv 2)) (a_consD (o_ix opIx_ok (o_name (pv 3)) (o_const pe_int) (fun _ _ => rfl)) (a_consD (o_callTy (s := true) opTuple_ok (by rfl) T.n_tuple (by decide +kernel) (a_consD (o_name (pv 10)) a_nil)) a_nil))))))))))))
/-! ### _law_plan -/
def D_law_plan : FD := runF 3 12 ((fSeq (fSet 3 (fSl opSl (fLst (fCons (fDat (fTup (fCons (fDat (fC (.str "cells"))) (fCons (fDat (fOp2 true opAdd (fC (.int (1))) (fOwn D_law_draw (fCons (fName 0) (fCons (fDat (fC (.int (5)))) fNil))))) fNil)))) (fCons (fDat (fTup (fCons (fDat (fC (.str "heap"))) (fCons (fDat (fC (.int (256)))) fNil)))) fNil))) (fpure none) (fbind (fOwn D_law_draw (fCons (fName 0) (fCons (fDat (fC (.int (3)))) fNil))) toI)))
  (fSeq (fSet 4 (fOwn D_law_titles (fCons (fName 0) (fCons (fDat (fOp2 true opAdd (fC (.int (1))) (fOwn D_law_draw (fCons (fName 0) (fCons (fDat (fName 1)) fNil))))) fNil))))
  (fSeq (fSet 5 (fLc (fIter (fName 4)) (gN' 6) (fpure true) (fDat (fOwn D_law_draw (fCons (fName 0) (fCons (fDat (fC (.int (4)))) fNil)))) [6]))
  (fSeq (fSet 7 (fLst fNil))
  (fSeq (fFor (fZip (fCons (fDat (fName 4)) (fCons (fDat (fName 5)) fNil))) (gTup' 2 (gCons' (gN' 6) (gCons' (gN' 8) gNil')))
    (fSeq (fSet 9 (fTup (fCons (fDat (fOp2 true opAdd (fName 8) (fOwn D_law_draw (fCons (fName 0) (fCons (fDat (fC (.int (3)))) fNil))))) (fCons (fDat (fName 3)) (fCons (fDat (fLc (fZip (fCons (fDat (fName 4)) (fCons (fDat (fName 5)) fNil))) (gTup' 2 (gCons' (gN' 10) (gCons' (gN' 11) gNil'))) (fpure true) (fDat (fTup (fCons (fDat (fName 10)) (fCons (fDat (fName 11)) fNil)))) [10, 11])) fNil)))))
  (fDrop (fMut gAppend (fName 7) (fOwn D_law_sound (fCons (fName 0) (fCons (fDat (fName 6)) (fCons (fDat (fName 8)) (fCons (fDat (fName 9)) (fCons (fDat (fOp2 true opAdd (fC (.int (1))) (fOwn D_law_draw (fCons (fName 0) (fCons (fDat (fName 2)) fNil))))) fNil))))))))))
  (fRet (fTup (fCons (fDat (fCall true opTuple (fCons (fDat (fName 3)) fNil))) (fCons (fDat (fCall true opTuple (fCons (fDat (fName 7)) fNil))) fNil))))))))))
theorem g_law_plan (T : Txt K mg) : Gives P w K mg base CX0 6 "_law_plan" (spF D_law_plan) := by
  have g_law_sound : Gives P w K mg base CX0 5 "_law_sound" (spF (D_law_sound)) := g_law_sound T
  have g_law_draw : Gives P w K mg base CX0 1 "_law_draw" (spF (D_law_draw)) := g_law_draw T
  have g_law_titles : Gives P w K mg base CX0 2 "_law_titles" (spF (D_law_titles)) := g_law_titles T
  exact givesF T.d_law_plan sc_law_plan rfl (by decide) (fun _ _ _ _ _ _ us hl => match us, hl with | [_, _, _], _ => rfl) fun f cdv A outer s H E hr =>
      (b_cons (s_set (i := 3) (o_slice opSl_ok (o_lst (a_consD (o_tup (a_consD (o_const pe_str) (a_consD (o_op2 opAdd_ok (o_const pe_int) (o_own g_law_draw (hr.mono (by omega)) (by rfl) pass0 (a_cons (o_name (pv 0)) (a_consD (o_const pe_int) a_nil)))) a_nil))) (a_consD (o_tup (a_consD (o_const pe_str) (a_consD (o_const pe_int) a_nil))) a_nil))) p_none (p_some (o_own g_law_draw (hr.mono (by omega)) (by rfl) pass0 (a_cons (o_name (pv 0)) (a_consD (o_const pe_int) a_nil))))) (fun _ a => ps_set (i := 3) sc_law_plan.nd rfl (Or.inl rfl) a))
      (b_cons (s_set (i := 4) (o_own g_law_titles (hr.mono (by omega)) (by rfl) pass0 (a_cons (o_name (pv 0)) (a_consD (o_op2 opAdd_ok (o_const pe_int) (o_own g_law_draw (hr.mono (by omega)) (by rfl) pass0 (a_cons (o_name (pv 0)) (a_consD (o_name (pv 1)) a_nil)))) a_nil))) (fun _ a => ps_set (i := 4) sc_law_plan.nd rfl (Or.inl rfl) a))
      (b_cons (s_setLc (i := 5) (own := [("_law_title", 6)]) rfl sc_law_plan.nd rfl rfl (sw_true rfl rfl rfl (by decide +kernel)) (i_val (o_name (pv 4))) (blkOk_by (N := ["_law_pool_here", "_law_most", "_law_many", "_law_cells", "_law_titles_here", "_law_sizes", "_law_title", "_law_found", "_law_size", "_law_room", "_law_call", "_law_more"]) (sc := defScope s_law_plan) (by decide +kernel)) (fun _ _ _ _ _ => (g_name (pg_name (i := 6) sc_law_plan.nd rfl (Or.inl rfl)))) (fun _ _ _ _ _ => ts_nil) (fun _ _ _ _ _ => (o_own g_law_draw (hr.mono (by omega)) (by rfl) pass0 (a_cons (o_name (pv 0)) (a_consD (o_const pe_int) a_nil)))))
      (b_cons (s_set (i := 7) (o_lst a_nil) (fun _ a => ps_set (i := 7) sc_law_plan.nd rfl (Or.inl rfl) a))
      (b_cons (s_for (i_zip (by rfl) T.n_zip (a_consD (o_name (pv 4)) (a_consD (o_name (pv 5)) a_nil))) (g_tup (g_cons (g_name (pg_name (i := 6) sc_law_plan.nd rfl (Or.inl rfl))) (g_cons (g_name (pg_name (i := 8) sc_law_plan.nd rfl (Or.inl rfl))) g_nil)) (fun _ a => pg_tup (by rfl) a))
    (b_cons (s_set (i := 9) (o_tup (a_consD (o_op2 opAdd_ok (o_name (pv 8)) (o_own g_law_draw (hr.mono (by omega)) (by rfl) pass0 (a_cons (o_name (pv 0)) (a_consD (o_const pe_int) a_nil)))) (a_consD (o_name (pv 3)) (a_consD (o_lc (own := [("_law_call", 10), ("_law_more", 11)]) rfl sc_law_plan.nd (i_zip (by rfl) T.n_zip (a_consD (o_name (pv 4)) (a_consD (o_name (pv 5)) a_nil))) (blkOk_by (N := ["_law_pool_here", "_law_most", "_law_many", "_law_cells", "_law_titles_here", "_law_sizes", "_law_title", "_law_found", "_law_size", "_law_room", "_law_call", "_law_more"]) (sc := defScope s_law_plan) (by decide +kernel)) (fun _ _ _ _ _ => (g_tup (g_cons (g_name (pg_name (i := 10) sc_law_plan.nd rfl (Or.inl rfl))) (g_cons (g_name (pg_name (i := 11) sc_law_plan.nd rfl (Or.inl rfl))) g_nil)) (fun _ a => pg_tup (by rfl) a))) (fun _ _ _ _ _ => ts_nil) (fun _ _ _ _ _ => (o_tup (a_consD (o_name (pv 10)) (a_consD (o_name (pv 11)) a_nil))))) a_nil)))) (fun _ a => ps_set (i := 9) sc_law_plan.nd rfl (Or.inl rfl) a))
      (b_one (s_expr (o_append (o_name (pv 7)) (o_own g_law_sound (hr.mono (by omega)) (by rfl) pass0 (a_cons (o_name (pv 0)) (a_consD (o_name (pv 6)) (a_consD (o_name (pv 8)) (a_consD (o_name (pv 9)) (a_consD (o_op2 opAdd_ok (o_const pe_int) (o_own g_law_draw (hr.mono (by omega)) (by rfl) pass0 (a_cons (o_name (pv 0)) (a_consD (o_name (pv 2)) a_nil)))) a_nil)))))) (fun _ _ a b => pe_bm PySem.F.plainAttrs_list PySem.F.slot_list_append PySem.F.type_list_append mt_append a (pa_cons b pa_nil)))))) (fun _ _ _ a b c => ps_for PassesOwn.never rfl a b c))
      (b_one (s_ret (o_tup (a_consD (o_callTy (s := true) opTuple_ok (by rfl) T.n_tuple (by decide +kernel) (a_consD (o_name (pv 3)) a_nil)) (a_consD (o_callTy (s := true) opTuple_ok (by rfl) T.n_tuple (by decide +kernel) (a_consD (o_name (pv 7)) a_nil)) a_nil))))))))))
end
end Cb

end

section
set_option maxRecDepth 100000
set_option maxHeartbeats 4000000
set_option autoImplicit false
namespace Cb
open PySem PySem.Spec PyProof.Rows L2
section
variable {P : Program} {w : World} {K : PySem.W.Frag} {mg : Str → Option Value} {base : Heap}
/-! ### _law_whole -/
def D_law_whole : FD := runF 3 3 ((fRet (fAndV (fIsi isInt (fName 0)) (fAndV (fNotV (fIsi isBool (fName 0))) (fOfB (fChain opLe opLe (fName 1) (fName 0) (fName 2)))))))
theorem g_law_whole (T : Txt K mg) : Gives P w K mg base CX0 1 "_law_whole" (spF D_law_whole) := by
  exact givesF T.d_law_whole sc_law_whole rfl (by decide) (fun _ _ _ _ _ _ us hl => match us, hl with | [_, _, _], _ => rfl) fun f cdv A outer s H E hr =>
      (b_one (s_ret (o_and (o_isi kb_int (o_name (pv 0)) (by rfl) T.n_isinstance (by decide +kernel) (pe_bltn (v := .ty "int") (by rfl) T.n_int (by decide +kernel) rfl)) (o_and (o_not (o_isi kb_bool (o_name (pv 0)) (by rfl) T.n_isinstance (by decide +kernel) (pe_bltn (v := .ty "bool") (by rfl) T.n_bool (by decide +kernel) rfl))) (o_one (o_chain opLe_ok opLe_ok (o_name (pv 1)) (o_name (pv 0)) (o_name (pv 2))))))))
/-! ### _law_is_name -/
def D_law_is_name : FD := runF 2 4 ((fSeq (fIfS (fOr (fNot (fTru (fIsi isStr (fName 0)))) (fOr (fNot (fChain opLe opLe (fC (.int (1))) (fCall false opLen (fCons (fName 0) fNil)) (fC (.int (12))))) (fCmp opIn (fName 0) (fName 1)))) (fRet (fC (.bool false)))
    fSkip)
  (fSeq (fSet 2 (fC (.str "abcdefghijklmnopqrstuvwxyz0123456789")))
  (fRet (fAndV (fOp2 false opIn (fIx opIx (fName 0) (fC (.int (0)))) (fSl opSl (fName 2) (fpure none) (fbind (fC (.int (26))) toI))) (fCall false opAll (fCons (fLc (fIter (fName 0)) (gN' 3) (fpure true) (fDat (fOp2 false opIn (fName 3) (fName 2))) [3]) fNil)))))))
theorem g_law_is_name (T : Txt K mg) : Gives P w K mg base CX0 1 "_law_is_name" (spF D_law_is_name) := by
  exact givesF T.d_law_is_name sc_law_is_name rfl (by decide) (fun _ _ _ _ _ _ us hl => match us, hl with | [_, _], _ => rfl) fun f cdv A outer s H E hr =>
      (b_cons (s_if (t_w (w_or (t_not (t_truth (o_isi kb_str (o_name (pv 0)) (by rfl) T.n_isinstance (by decide +kernel) (pe_bltn (v := .ty "str") (by rfl) T.n_str (by decide +kernel) rfl)))) (w_or (t_not (t_chain opLe_ok opLe_ok (o_const pe_int) (o_callB (s := false) opLen_ok (by rfl) T.n_len (by decide +kernel) (a_cons (o_name (pv 0)) a_nil)) (o_const pe_int))) (w_or1 (t_cmp (opIn_ok (units1 hr)) (o_name (pv 0)) (o_name (pv 1)) (by rfl)))))) (b_one (s_ret (o_const pe_bl)))
    b_nil)
      (b_cons (s_set (i := 2) (o_const pe_str) (fun _ a => ps_set (i := 2) sc_law_is_name.nd rfl (Or.inr rfl) a))
      (b_one (s_ret (o_and (o_cmp (opIn_ok (units1 hr)) (o_ix opIx_ok (o_name (pv 0)) (o_const pe_int) (fun _ _ => rfl)) (o_slice opSl_ok (o_name (pv 2)) p_none (p_some (o_const pe_int))) (by rfl)) (o_one (o_callB (s := false) (opAll_ok rfl) (by rfl) T.n_all (by decide +kernel) (a_cons (o_lc (own := [("_law_sign", 3)]) rfl sc_law_is_name.nd (i_val (o_name (pv 0))) (blkOk_by (N := ["_law_thing", "_law_barred", "_law_signs", "_law_sign"]) (sc := defScope s_law_is_name) (by decide +kernel)) (fun _ _ _ _ _ => (g_name (pg_name (i := 3) sc_law_is_name.nd rfl (Or.inl rfl)))) (fun _ _ _ _ _ => ts_nil) (fun _ _ _ _ _ => (o_cmp (opIn_ok (units1 hr)) (o_name (pv 3)) (o_name (pv 2)) (by rfl)))) a_nil))))))))
/-! ### _law_is_row -/
def D_law_is_row : FD := runF 5 5 ((fSeq (fIfS (fOr (fNot (fTru (fIsi isTup (fName 0)))) (fOr (fCmp opNotIn (fCall false opLen (fCons (fName 0) fNil)) (fTup (fCons (fDat (fC (.int (1)))) (fCons (fDat (fC (.int (2)))) fNil)))) (fNot (fTru (fIsi isStr (fIx opIx (fName 0) (fC (.int (0))))))))) (fRet (fC (.bool false)))
    fSkip)
  (fSeq (fIfS (fCmp opEq (fCall false opLen (fCons (fName 0) fNil)) (fC (.int (1)))) (fRet (fOp2 false opIn (fIx opIx (fName 0) (fC (.int (0)))) (fName 4)))
    fSkip)
  (fSeq (fIfS (fCmp opEq (fIx opIx (fName 0) (fC (.int (0)))) (fC (.str "push"))) (fRet (fOwn D_law_whole (fCons (fDat (fIx opIx (fName 0) (fC (.int (1))))) (fCons (fDat (fOp2 true opSub (fC (.int (0))) (fC (.int (2147483648))))) (fCons (fDat (fOp2 true opSub (fC (.int (2147483648))) (fC (.int (1))))) fNil)))))
    fSkip)
  (fSeq (fIfS (fCmp opIn (fIx opIx (fName 0) (fC (.int (0)))) (fTup (fCons (fDat (fC (.str "load"))) (fCons (fDat (fC (.str "store"))) (fCons (fDat (fC (.str "jump"))) (fCons (fDat (fC (.str "jumpif"))) fNil)))))) (fRet (fOwn D_law_whole (fCons (fDat (fIx opIx (fName 0) (fC (.int (1))))) (fCons (fDat (fC (.int (0)))) (fCons (fDat (fOp2 true opSub (fIf (fCmp opIn (fIx opIx (fName 0) (fC (.int (0)))) (fTup (fCons (fDat (fC (.str "load"))) (fCons (fDat (fC (.str "store"))) fNil)))) (fName 1) (fName 2)) (fC (.int (1))))) fNil)))))
    fSkip)
  (fRet (fAndV (fIsi isStr (fIx opIx (fName 0) (fC (.int (1))))) (fOp2 false opIn (fIx opIx (fName 0) (fC (.int (1)))) (fGet2 (fName 3) (fIx opIx (fName 0) (fC (.int (0)))) (fLst fNil))))))))))
theorem g_law_is_row (T : Txt K mg) : Gives P w K mg base CX0 2 "_law_is_row" (spF D_law_is_row) := by
  have g_law_whole : Gives P w K mg base CX0 1 "_law_whole" (spF (D_law_whole)) := g_law_whole T
  exact givesF T.d_law_is_row sc_law_is_row rfl (by decide) (fun _ _ _ _ _ _ us hl => match us, hl with | [_, _, _, _, _], _ => rfl) fun f cdv A outer s H E hr =>
      (b_cons (s_if (t_w (w_or (t_not (t_truth (o_isi kb_tuple (o_name (pv 0)) (by rfl) T.n_isinstance (by decide +kernel) (pe_bltn (v := .ty "tuple") (by rfl) T.n_tuple (by decide +kernel) rfl)))) (w_or (t_cmp (opNotIn_ok (units1 hr)) (o_callB (s := false) opLen_ok (by rfl) T.n_len (by decide +kernel) (a_cons (o_name (pv 0)) a_nil)) (o_tup (a_consD (o_const pe_int) (a_consD (o_const pe_int) a_nil))) (by rfl)) (w_or1 (t_not (t_truth (o_isi kb_str (o_ix opIx_ok (o_name (pv 0)) (o_const pe_int) (fun _ _ => rfl)) (by rfl) T.n_isinstance (by decide +kernel) (pe_bltn (v := .ty "str") (by rfl) T.n_str (by decide +kernel) rfl)))))))) (b_one (s_ret (o_const pe_bl)))
    b_nil)
      (b_cons (s_if (t_cmp (opEq_ok (units64 hr)) (o_callB (s := false) opLen_ok (by rfl) T.n_len (by decide +kernel) (a_cons (o_name (pv 0)) a_nil)) (o_const pe_int) (nomark _)) (b_one (s_ret (o_cmp (opIn_ok (units1 hr)) (o_ix opIx_ok (o_name (pv 0)) (o_const pe_int) (fun _ _ => rfl)) (o_name (pv 4)) (by rfl))))
    b_nil)
      (b_cons (s_if (t_cmp (opEq_ok (units64 hr)) (o_ix opIx_ok (o_name (pv 0)) (o_const pe_int) (fun _ _ => rfl)) (o_const pe_str) (nomark _)) (b_one (s_ret (o_own g_law_whole (hr.mono (by omega)) (by rfl) pass0 (a_consD (o_ix opIx_ok (o_name (pv 0)) (o_const pe_int) (fun _ _ => rfl)) (a_consD (o_op2 opSub_ok (o_const pe_int) (o_const (pe_powc 2147483648 ⟨by decide, by decide, by decide⟩ (by decide)))) (a_consD (o_op2 opSub_ok (o_const (pe_powc 2147483648 ⟨by decide, by decide, by decide⟩ (by decide))) (o_const pe_int)) a_nil))))))
    b_nil)
      (b_cons (s_if (t_cmp (opIn_ok (units1 hr)) (o_ix opIx_ok (o_name (pv 0)) (o_const pe_int) (fun _ _ => rfl)) (o_tup (a_consD (o_const pe_str) (a_consD (o_const pe_str) (a_consD (o_const pe_str) (a_consD (o_const pe_str) a_nil))))) (by rfl)) (b_one (s_ret (o_own g_law_whole (hr.mono (by omega)) (by rfl) pass0 (a_consD (o_ix opIx_ok (o_name (pv 0)) (o_const pe_int) (fun _ _ => rfl)) (a_consD (o_const pe_int) (a_consD (o_op2 opSub_ok (o_if (t_cmp (opIn_ok (units1 hr)) (o_ix opIx_ok (o_name (pv 0)) (o_const pe_int) (fun _ _ => rfl)) (o_tup (a_consD (o_const pe_str) (a_consD (o_const pe_str) a_nil))) (by rfl)) (o_name (pv 1)) (o_name (pv 2))) (o_const pe_int)) a_nil))))))
    b_nil)
      (b_one (s_ret (o_and (o_isi kb_str (o_ix opIx_ok (o_name (pv 0)) (o_const pe_int) (fun _ _ => rfl)) (by rfl) T.n_isinstance (by decide +kernel) (pe_bltn (v := .ty "str") (by rfl) T.n_str (by decide +kernel) rfl)) (o_one (o_cmp (opIn_ok (units1 hr)) (o_ix opIx_ok (o_name (pv 0)) (o_const pe_int) (fun _ _ => rfl)) (o_get2 (o_name (pv 3)) (o_ix opIx_ok (o_name (pv 0)) (o_const pe_int) (fun _ _ => rfl)) (o_lst a_nil) (fun _ _ _ a b c => pe_dget2 (units1 hr) a b c ⟨by rfl, by rfl, by rfl, by rfl⟩)) (by rfl))))))))))
/-! ### _law_are_parts -/
def D_law_are_parts : FD := runF 1 3 ((fSeq (fSet 1 (fLst (fCons (fDat (fC (.str "array"))) (fCons (fDat (fC (.str "block"))) (fCons (fDat (fC (.str "break"))) (fCons (fDat (fC (.str "continue"))) (fCons (fDat (fC (.str "drop"))) (fCons (fDat (fC (.str "else"))) (fCons (fDat (fC (.str "func"))) (fCons (fDat (fC (.str "if"))) (fCons (fDat (fC (.str "loop"))) (fCons (fDat (fC (.str "put"))) (fCons (fDat (fC (.str "rem"))) (fCons (fDat (fC (.str "return"))) fNil))))))))))))))
  (fSeq (fDrop (fMut gAppend (fName 1) (fC (.str "trap"))))
  (fSeq (fFor (fIter (fIx opIx (fName 0) (fC (.int (0))))) (gN' 2)
    (fSeq (fIfS (fOr (fNot (fTru (fIsi isTup (fName 2)))) (fOr (fCmp opNe (fCall false opLen (fCons (fName 2) fNil)) (fC (.int (2)))) (fNot (fTru (fOwn D_law_is_name (fCons (fDat (fIx opIx (fName 2) (fC (.int (0))))) (fCons (fDat (fName 1)) fNil))))))) (fRet (fC (.bool false)))
    fSkip)
  (fIfS (fNot (fTru (fOwn D_law_whole (fCons (fDat (fIx opIx (fName 2) (fC (.int (1))))) (fCons (fDat (fC (.int (1)))) (fCons (fDat (fC (.int (256)))) fNil)))))) (fRet (fC (.bool false)))
    fSkip)))
  (fSeq (fFor (fIter (fIx opIx (fName 0) (fC (.int (1))))) (gN' 2)
    (fSeq (fIfS (fOr (fNot (fTru (fIsi isTup (fName 2)))) (fOr (fCmp opNe (fCall false opLen (fCons (fName 2) fNil)) (fC (.int (4)))) (fNot (fTru (fOwn D_law_is_name (fCons (fDat (fIx opIx (fName 2) (fC (.int (0))))) (fCons (fDat (fName 1)) fNil))))))) (fRet (fC (.bool false)))
    fSkip)
  (fSeq (fIfS (fOr (fNot (fTru (fOwn D_law_whole (fCons (fDat (fIx opIx (fName 2) (fC (.int (1))))) (fCons (fDat (fC (.int (0)))) (fCons (fDat (fC (.int (6)))) fNil)))))) (fNot (fTru (fOwn D_law_whole (fCons (fDat (fIx opIx (fName 2) (fC (.int (2))))) (fCons (fDat (fIx opIx (fName 2) (fC (.int (1))))) (fCons (fDat (fC (.int (200)))) fNil))))))) (fRet (fC (.bool false)))
    fSkip)
  (fIfS (fOr (fNot (fTru (fIsi isTup (fIx opIx (fName 2) (fC (.int (3))))))) (fNot (fChain opLe opLe (fC (.int (1))) (fCall false opLen (fCons (fIx opIx (fName 2) (fC (.int (3)))) fNil)) (fC (.int (10000)))))) (fRet (fC (.bool false)))
    fSkip))))
  (fRet (fC (.bool true))))))))
theorem g_law_are_parts (T : Txt K mg) : Gives P w K mg base CX0 2 "_law_are_parts" (spF D_law_are_parts) := by
  have g_law_whole : Gives P w K mg base CX0 1 "_law_whole" (spF (D_law_whole)) := g_law_whole T
  have g_law_is_name : Gives P w K mg base CX0 1 "_law_is_name" (spF (D_law_is_name)) := g_law_is_name T
  exact givesF T.d_law_are_parts sc_law_are_parts rfl (by decide) (fun _ _ _ _ _ _ us hl => match us, hl with | [_], _ => rfl) fun f cdv A outer s H E hr =>
      (b_cons (s_set (i := 1) (o_lst (a_consD (o_const pe_str) (a_consD (o_const pe_str) (a_consD (o_const pe_str) (a_consD (o_const pe_str) (a_consD (o_const pe_str) (a_consD (o_const pe_str) (a_consD (o_const pe_str) (a_consD (o_const pe_str) (a_consD (o_const pe_str) (a_consD (o_const pe_str) (a_consD (o_const pe_str) (a_consD (o_const pe_str) a_nil))))))))))))) (fun _ a => ps_set (i := 1) sc_law_are_parts.nd rfl (Or.inl rfl) a))
      (b_cons (s_expr (o_append (o_name (pv 1)) (o_const pe_str) (fun _ _ a b => pe_bm PySem.F.plainAttrs_list PySem.F.slot_list_append PySem.F.type_list_append mt_append a (pa_cons b pa_nil))))
      (b_cons (s_for (i_val (o_ix opIx_ok (o_name (pv 0)) (o_const pe_int) (fun _ _ => rfl))) (g_name (pg_name (i := 2) sc_law_are_parts.nd rfl (Or.inl rfl)))
    (b_cons (s_if (t_w (w_or (t_not (t_truth (o_isi kb_tuple (o_name (pv 2)) (by rfl) T.n_isinstance (by decide +kernel) (pe_bltn (v := .ty "tuple") (by rfl) T.n_tuple (by decide +kernel) rfl)))) (w_or (t_cmp (opNe_ok (units64 hr)) (o_callB (s := false) opLen_ok (by rfl) T.n_len (by decide +kernel) (a_cons (o_name (pv 2)) a_nil)) (o_const pe_int) (nomark _)) (w_or1 (t_not (t_truth (o_own g_law_is_name (hr.mono (by omega)) (by rfl) pass0 (a_consD (o_ix opIx_ok (o_name (pv 2)) (o_const pe_int) (fun _ _ => rfl)) (a_consD (o_name (pv 1)) a_nil))))))))) (b_one (s_ret (o_const pe_bl)))
    b_nil)
      (b_one (s_if (t_not (t_truth (o_own g_law_whole (hr.mono (by omega)) (by rfl) pass0 (a_consD (o_ix opIx_ok (o_name (pv 2)) (o_const pe_int) (fun _ _ => rfl)) (a_consD (o_const pe_int) (a_consD (o_const pe_int) a_nil)))))) (b_one (s_ret (o_const pe_bl)))
    b_nil))) (fun _ _ _ a b c => ps_for PassesOwn.never rfl a b c))
      (b_cons (s_for (i_val (o_ix opIx_ok (o_name (pv 0)) (o_const pe_int) (fun _ _ => rfl))) (g_name (pg_name (i := 2) sc_law_are_parts.nd rfl (Or.inl rfl)))
    (b_cons (s_if (t_w (w_or (t_not (t_truth (o_isi kb_tuple (o_name (pv 2)) (by rfl) T.n_isinstance (by decide +kernel) (pe_bltn (v := .ty "tuple") (by rfl) T.n_tuple (by decide +kernel) rfl)))) (w_or (t_cmp (opNe_ok (units64 hr)) (o_callB (s := false) opLen_ok (by rfl) T.n_len (by decide +kernel) (a_cons (o_name (pv 2)) a_nil)) (o_const pe_int) (nomark _)) (w_or1 (t_not (t_truth (o_own g_law_is_name (hr.mono (by omega)) (by rfl) pass0 (a_consD (o_ix opIx_ok (o_name (pv 2)) (o_const pe_int) (fun _ _ => rfl)) (a_consD (o_name (pv 1)) a_nil))))))))) (b_one (s_ret (o_const pe_bl)))
    b_nil)
      (b_cons (s_if (t_w (w_or (t_not (t_truth (o_own g_law_whole (hr.mono (by omega)) (by rfl) pass0 (a_consD (o_ix opIx_ok (o_name (pv 2)) (o_const pe_int) (fun _ _ => rfl)) (a_consD (o_const pe_int) (a_consD (o_const pe_int) a_nil)))))) (w_or1 (t_not (t_truth (o_own g_law_whole (hr.mono (by omega)) (by rfl) pass0 (a_consD (o_ix opIx_ok (o_name (pv 2)) (o_const pe_int) (fun _ _ => rfl)) (a_consD (o_ix opIx_ok (o_name (pv 2)) (o_const pe_int) (fun _ _ => rfl)) (a_consD (o_const pe_int) a_nil))))))))) (b_one (s_ret (o_const pe_bl)))
    b_nil)
      (b_one (s_if (t_w (w_or (t_not (t_truth (o_isi kb_tuple (o_ix opIx_ok (o_name (pv 2)) (o_const pe_int) (fun _ _ => rfl)) (by rfl) T.n_isinstance (by decide +kernel) (pe_bltn (v := .ty "tuple") (by rfl) T.n_tuple (by decide +kernel) rfl)))) (w_or1 (t_not (t_chain opLe_ok opLe_ok (o_const pe_int) (o_callB (s := false) opLen_ok (by rfl) T.n_len (by decide +kernel) (a_cons (o_ix opIx_ok (o_name (pv 2)) (o_const pe_int) (fun _ _ => rfl)) a_nil)) (o_const pe_int)))))) (b_one (s_ret (o_const pe_bl)))
    b_nil)))) (fun _ _ _ a b c => ps_for PassesOwn.never rfl a b c))
      (b_one (s_ret (o_const pe_bl)))))))
/-! ### _law_is_plan -/
def D_law_is_plan : FD := runF 1 11 ((fSeq (fIfS (fOr (fNot (fTru (fIsi isTup (fName 0)))) (fOr (fCmp opNe (fCall false opLen (fCons (fName 0) fNil)) (fC (.int (2)))) (fNot (fTru (fCall false opAll (fCons (fLc (fIter (fName 0)) (gN' 1) (fpure true) (fDat (fIsi isTup (fName 1))) [1]) fNil)))))) (fRet (fC (.bool false)))
    fSkip)
  (fSeq (fIfS (fOr (fCmp opGt (fCall false opLen (fCons (fIx opIx (fName 0) (fC (.int (0)))) fNil)) (fC (.int (8)))) (fOr (fNot (fChain opLe opLe (fC (.int (1))) (fCall false opLen (fCons (fIx opIx (fName 0) (fC (.int (1)))) fNil)) (fC (.int (12))))) (fNot (fTru (fOwn D_law_are_parts (fCons (fDat (fName 0)) fNil)))))) (fRet (fC (.bool false)))
    fSkip)
  (fSeq (fSet 2 (fLc (fIter (fName 0)) (gN' 3) (fpure true) (fDat (fLc (fIter (fName 3)) (gN' 1) (fpure true) (fDat (fIx opIx (fName 1) (fC (.int (0))))) [1])) [3]))
  (fSeq (fIfS (fTru (fCall false opAny (fCons (fLc (fIter (fName 2)) (gN' 4) (fpure true) (fDat (fOp2 false opNe (fName 4) (fCall false opSortSet (fCons (fName 4) fNil)))) [4]) fNil))) (fRet (fC (.bool false)))
    fSkip)
  (fSeq (fSet 5 (fLst (fCons (fDat (fC (.str "add"))) (fCons (fDat (fC (.str "sub"))) (fCons (fDat (fC (.str "mul"))) (fCons (fDat (fC (.str "div"))) (fCons (fDat (fC (.str "rem"))) (fCons (fDat (fC (.str "and"))) (fCons (fDat (fC (.str "or"))) (fCons (fDat (fC (.str "xor"))) (fCons (fDat (fC (.str "shl"))) (fCons (fDat (fC (.str "shr"))) (fCons (fDat (fC (.str "lt"))) (fCons (fDat (fC (.str "le"))) (fCons (fDat (fC (.str "gt"))) (fCons (fDat (fC (.str "ge"))) (fCons (fDat (fC (.str "eq"))) (fCons (fDat (fC (.str "ne"))) fNil))))))))))))))))))
  (fSeq (fSet 5 (fOp2 true opAdd (fName 5) (fLst (fCons (fDat (fC (.str "neg"))) (fCons (fDat (fC (.str "not"))) (fCons (fDat (fC (.str "dup"))) (fCons (fDat (fC (.str "swap"))) (fCons (fDat (fC (.str "pop"))) (fCons (fDat (fC (.str "put"))) (fCons (fDat (fC (.str "return"))) (fCons (fDat (fC (.str "trap"))) fNil)))))))))))
  (fSeq (fSet 6 (fDisp [(.inr "get", (fIx opIx (fName 2) (fC (.int (0))))), (.inr "set", (fIx opIx (fName 2) (fC (.int (0))))), (.inr "call", (fIx opIx (fName 2) (fC (.int (1)))))]))
  (fSeq (fFor (fIter (fIx opIx (fName 0) (fC (.int (1))))) (gTup' 4 (gCons' (gN' 7) (gCons' (gN' 8) (gCons' (gN' 9) (gCons' (gN' 10) gNil')))))
    (fIfS (fNot (fTru (fCall false opAll (fCons (fLc (fIter (fName 10)) (gN' 3) (fpure true) (fDat (fOwn D_law_is_row (fCons (fDat (fName 3)) (fCons (fDat (fName 9)) (fCons (fDat (fCall false opLen (fCons (fName 10) fNil))) (fCons (fDat (fName 6)) (fCons (fDat (fName 5)) fNil))))))) [3]) fNil)))) (fRet (fC (.bool false)))
    fSkip))
  (fRet (fC (.bool true))))))))))))
theorem g_law_is_plan (T : Txt K mg) : Gives P w K mg base CX0 3 "_law_is_plan" (spF D_law_is_plan) := by
  have g_law_is_row : Gives P w K mg base CX0 2 "_law_is_row" (spF (D_law_is_row)) := g_law_is_row T
  have g_law_are_parts : Gives P w K mg base CX0 2 "_law_are_parts" (spF (D_law_are_parts)) := g_law_are_parts T
  exact givesF T.d_law_is_plan sc_law_is_plan rfl (by decide) (fun _ _ _ _ _ _ us hl => match us, hl with | [_], _ => rfl) fun f cdv A outer s H E hr =>
      (b_cons (s_if (t_w (w_or (t_not (t_truth (o_isi kb_tuple (o_name (pv 0)) (by rfl) T.n_isinstance (by decide +kernel) (pe_bltn (v := .ty "tuple") (by rfl) T.n_tuple (by decide +kernel) rfl)))) (w_or (t_cmp (opNe_ok (units64 hr)) (o_callB (s := false) opLen_ok (by rfl) T.n_len (by decide +kernel) (a_cons (o_name (pv 0)) a_nil)) (o_const pe_int) (nomark _)) (w_or1 (t_not (t_truth (o_callB (s := false) (opAll_ok rfl) (by rfl) T.n_all (by decide +kernel) (a_cons (o_lc (own := [("_law_part", 1)]) rfl sc_law_is_plan.nd (i_val (o_name (pv 0))) (blkOk_by (N := ["_law_thing", "_law_part", "_law_lists", "_law_row", "_law_calls", "_law_bare", "_law_known", "_law_title", "_law_params", "_law_slots", "_law_rows"]) (sc := defScope s_law_is_plan) (by decide +kernel)) (fun _ _ _ _ _ => (g_name (pg_name (i := 1) sc_law_is_plan.nd rfl (Or.inl rfl)))) (fun _ _ _ _ _ => ts_nil) (fun _ _ _ _ _ => (o_isi kb_tuple (o_name (pv 1)) (by rfl) T.n_isinstance (by decide +kernel) (pe_bltn (v := .ty "tuple") (by rfl) T.n_tuple (by decide +kernel) rfl)))) a_nil)))))))) (b_one (s_ret (o_const pe_bl)))
    b_nil)
      (b_cons (s_if (t_w (w_or (t_cmp opGt_ok (o_callB (s := false) opLen_ok (by rfl) T.n_len (by decide +kernel) (a_cons (o_ix opIx_ok (o_name (pv 0)) (o_const pe_int) (fun _ _ => rfl)) a_nil)) (o_const pe_int) (nomark _)) (w_or (t_not (t_chain opLe_ok opLe_ok (o_const pe_int) (o_callB (s := false) opLen_ok (by rfl) T.n_len (by decide +kernel) (a_cons (o_ix opIx_ok (o_name (pv 0)) (o_const pe_int) (fun _ _ => rfl)) a_nil)) (o_const pe_int))) (w_or1 (t_not (t_truth (o_own g_law_are_parts (hr.mono (by omega)) (by rfl) pass0 (a_consD (o_name (pv 0)) a_nil)))))))) (b_one (s_ret (o_const pe_bl)))
    b_nil)
      (b_cons (s_setLc (i := 2) (own := [("_law_row", 3)]) rfl sc_law_is_plan.nd rfl rfl (sw_true rfl rfl rfl (by decide +kernel)) (i_val (o_name (pv 0))) (blkOk_by (N := ["_law_thing", "_law_part", "_law_lists", "_law_row", "_law_calls", "_law_bare", "_law_known", "_law_title", "_law_params", "_law_slots", "_law_rows"]) (sc := defScope s_law_is_plan) (by decide +kernel)) (fun _ _ _ _ _ => (g_name (pg_name (i := 3) sc_law_is_plan.nd rfl (Or.inl rfl)))) (fun _ _ _ _ _ => ts_nil) (fun _ _ _ _ _ => (o_lc (own := [("_law_part", 1)]) rfl sc_law_is_plan.nd (i_val (o_name (pv 3))) (blkOk_by (N := ["_law_thing", "_law_part", "_law_lists", "_law_row", "_law_calls", "_law_bare", "_law_known", "_law_title", "_law_params", "_law_slots", "_law_rows"]) (by rfl)) (fun _ _ _ _ _ => (g_name (pg_name (i := 1) sc_law_is_plan.nd rfl (Or.inl rfl)))) (fun _ _ _ _ _ => ts_nil) (fun _ _ _ _ _ => (o_ix opIx_ok (o_name (pv 1)) (o_const pe_int) (fun _ _ => rfl))))))
      (b_cons (s_if (t_truth (o_callB (s := false) (opAny_ok rfl) (by rfl) T.n_any (by decide +kernel) (a_cons (o_lc (own := [("_law_calls", 4)]) rfl sc_law_is_plan.nd (i_val (o_name (pv 2))) (blkOk_by (N := ["_law_thing", "_law_part", "_law_lists", "_law_row", "_law_calls", "_law_bare", "_law_known", "_law_title", "_law_params", "_law_slots", "_law_rows"]) (sc := defScope s_law_is_plan) (by decide +kernel)) (fun _ _ _ _ _ => (g_name (pg_name (i := 4) sc_law_is_plan.nd rfl (Or.inl rfl)))) (fun _ _ _ _ _ => ts_nil) (fun _ _ _ _ _ => (o_cmp (opNe_ok (units64 hr)) (o_name (pv 4)) (o_sortSet rfl (by rfl) T.n_sorted (by rfl) T.n_set (a_cons (o_name (pv 4)) a_nil)) (nomark _)))) a_nil))) (b_one (s_ret (o_const pe_bl)))
    b_nil)
      (b_cons (s_set (i := 5) (o_lst (a_consD (o_const pe_str) (a_consD (o_const pe_str) (a_consD (o_const pe_str) (a_consD (o_const pe_str) (a_consD (o_const pe_str) (a_consD (o_const pe_str) (a_consD (o_const pe_str) (a_consD (o_const pe_str) (a_consD (o_const pe_str) (a_consD (o_const pe_str) (a_consD (o_const pe_str) (a_consD (o_const pe_str) (a_consD (o_const pe_str) (a_consD (o_const pe_str) (a_consD (o_const pe_str) (a_consD (o_const pe_str) a_nil))))))))))))))))) (fun _ a => ps_set (i := 5) sc_law_is_plan.nd rfl (Or.inr rfl) a))
      (b_cons (s_set (i := 5) (o_op2 opAdd_ok (o_name (pv 5)) (o_lst (a_consD (o_const pe_str) (a_consD (o_const pe_str) (a_consD (o_const pe_str) (a_consD (o_const pe_str) (a_consD (o_const pe_str) (a_consD (o_const pe_str) (a_consD (o_const pe_str) (a_consD (o_const pe_str) a_nil)))))))))) (fun _ a => ps_set (i := 5) sc_law_is_plan.nd rfl (Or.inr rfl) a))
      (b_cons (s_set (i := 6) (o_dispF (d_cons (pe_str (x := "get")) (o_ix opIx_ok (o_name (pv 2)) (o_const pe_int) (fun _ _ => rfl)) (d_cons (pe_str (x := "set")) (o_ix opIx_ok (o_name (pv 2)) (o_const pe_int) (fun _ _ => rfl)) (d_cons (pe_str (x := "call")) (o_ix opIx_ok (o_name (pv 2)) (o_const pe_int) (fun _ _ => rfl)) d_nil)))) (fun _ a => ps_set (i := 6) sc_law_is_plan.nd rfl (Or.inr rfl) a))
      (b_cons (s_for (i_val (o_ix opIx_ok (o_name (pv 0)) (o_const pe_int) (fun _ _ => rfl))) (g_tup (g_cons (g_name (pg_name (i := 7) sc_law_is_plan.nd rfl (Or.inl rfl))) (g_cons (g_name (pg_name (i := 8) sc_law_is_plan.nd rfl (Or.inl rfl))) (g_cons (g_name (pg_name (i := 9) sc_law_is_plan.nd rfl (Or.inr rfl))) (g_cons (g_name (pg_name (i := 10) sc_law_is_plan.nd rfl (Or.inr rfl))) g_nil)))) (fun _ a => pg_tup (by rfl) a))
    (b_one (s_if (t_not (t_truth (o_callB (s := false) (opAll_ok rfl) (by rfl) T.n_all (by decide +kernel) (a_cons (o_lc (own := [("_law_row", 3)]) rfl sc_law_is_plan.nd (i_val (o_name (pv 10))) (blkOk_by (N := ["_law_thing", "_law_part", "_law_lists", "_law_row", "_law_calls", "_law_bare", "_law_known", "_law_title", "_law_params", "_law_slots", "_law_rows"]) (sc := defScope s_law_is_plan) (by decide +kernel)) (fun _ _ _ _ _ => (g_name (pg_name (i := 3) sc_law_is_plan.nd rfl (Or.inl rfl)))) (fun _ _ _ _ _ => ts_nil) (fun _ _ _ _ _ => (o_own g_law_is_row (hr.mono (by omega)) (by rfl) pass0 (a_consD (o_name (pv 3)) (a_consD (o_name (pv 9)) (a_consD (o_callB (s := false) opLen_ok (by rfl) T.n_len (by decide +kernel) (a_cons (o_name (pv 10)) a_nil)) (a_consD (o_name (pv 6)) (a_consD (o_name (pv 5)) a_nil)))))))) a_nil)))) (b_one (s_ret (o_const pe_bl)))
    b_nil)) (fun _ _ _ a b c => ps_for PassesOwn.never rfl a b c))
      (b_one (s_ret (o_const pe_bl)))))))))))
end
end Cb

end

section
set_option maxRecDepth 100000
set_option maxHeartbeats 4000000
set_option autoImplicit false
namespace Cb
open PySem PySem.Spec PyProof.Rows L2
section
variable {P : Program} {w : World} {K : PySem.W.Frag} {mg : Str → Option Value} {base : Heap}
/-! ### _law_odd_row -/
def D_law_odd_row : FD := runF 4 5 ((fSeq (fSet 4 (fLst (fCons (fDat (fC .none)) (fCons (fDat (fC (.bool true))) (fCons (fDat (fC (.int (0)))) (fCons (fDat (fC (.str "add"))) (fCons (fDat (fC (.str ""))) (fCons (fDat (fTup fNil)) (fCons (fDat (fLst fNil)) (fCons (fDat (fC (.dict []))) (fCons (fDat (fTup (fCons (fDat (fC (.str "push"))) fNil))) (fCons (fDat (fTup (fCons (fDat (fC (.str "push"))) (fCons (fDat (fC (.bool true))) fNil)))) (fCons (fDat (fTup (fCons (fDat (fC (.str "push"))) (fCons (fDat (fC (.int (2147483648)))) fNil)))) fNil)))))))))))))
  (fSeq (fSet 4 (fOp2 true opAdd (fName 4) (fLst (fCons (fDat (fTup (fCons (fDat (fC (.str "push"))) (fCons (fDat (fOp2 true opSub (fC (.int (2147483648))) (fC (.int (1))))) fNil)))) fNil))))
  (fSeq (fSet 4 (fOp2 true opAdd (fName 4) (fLst (fCons (fDat (fTup (fCons (fDat (fC (.str "push"))) (fCons (fDat (fOp2 true opSub (fC (.int (0))) (fC (.int (2147483648))))) fNil)))) (fCons (fDat (fTup (fCons (fDat (fC (.str "push"))) (fCons (fDat (fOp2 true opSub (fOp2 true opSub (fC (.int (0))) (fC (.int (2147483648)))) (fC (.int (1))))) fNil)))) (fCons (fDat (fTup (fCons (fDat (fC (.str "push"))) (fCons (fDat (fC (.str "1"))) fNil)))) (fCons (fDat (fTup (fCons (fDat (fC (.str "push"))) (fCons (fDat (fC .none)) fNil)))) (fCons (fDat (fTup (fCons (fDat (fC (.str "push"))) (fCons (fDat (fC (.int (1)))) (fCons (fDat (fC (.int (2)))) fNil))))) fNil))))))))
  (fSeq (fSet 4 (fOp2 true opAdd (fName 4) (fLst (fCons (fDat (fTup (fCons (fDat (fC (.str "push"))) (fCons (fDat (fTup (fCons (fDat (fC (.int (1)))) fNil))) fNil)))) fNil))))
  (fSeq (fSet 4 (fOp2 true opAdd (fName 4) (fLst (fCons (fDat (fTup (fCons (fDat (fC (.str "load"))) (fCons (fDat (fName 1)) fNil)))) (fCons (fDat (fTup (fCons (fDat (fC (.str "load"))) (fCons (fDat (fOp2 true opSub (fName 1) (fC (.int (1))))) fNil)))) (fCons (fDat (fTup (fCons (fDat (fC (.str "store"))) (fCons (fDat (fOp2 true opSub (fC (.int (0))) (fC (.int (1))))) fNil)))) (fCons (fDat (fTup (fCons (fDat (fC (.str "store"))) (fCons (fDat (fOp2 true opSub (fName 1) (fC (.int (1))))) fNil)))) (fCons (fDat (fTup (fCons (fDat (fC (.str "load"))) (fCons (fDat (fC (.bool true))) fNil)))) fNil))))))))
  (fSeq (fSet 4 (fOp2 true opAdd (fName 4) (fLst (fCons (fDat (fTup (fCons (fDat (fC (.str "load"))) fNil))) fNil))))
  (fSeq (fSet 4 (fOp2 true opAdd (fName 4) (fLst (fCons (fDat (fTup (fCons (fDat (fC (.str "jump"))) (fCons (fDat (fName 2)) fNil)))) (fCons (fDat (fTup (fCons (fDat (fC (.str "jump"))) (fCons (fDat (fOp2 true opSub (fName 2) (fC (.int (1))))) fNil)))) (fCons (fDat (fTup (fCons (fDat (fC (.str "jump"))) (fCons (fDat (fOp2 true opAdd (fName 2) (fC (.int (1))))) fNil)))) (fCons (fDat (fTup (fCons (fDat (fC (.str "jumpif"))) (fCons (fDat (fOp2 true opSub (fC (.int (0))) (fC (.int (1))))) fNil)))) (fCons (fDat (fTup (fCons (fDat (fC (.str "jumpif"))) (fCons (fDat (fC (.int (0)))) fNil)))) fNil))))))))
  (fSeq (fSet 4 (fOp2 true opAdd (fName 4) (fLst (fCons (fDat (fTup (fCons (fDat (fC (.str "jump"))) (fCons (fDat (fC (.bool false))) fNil)))) fNil))))
  (fSeq (fSet 4 (fOp2 true opAdd (fName 4) (fLst (fCons (fDat (fTup (fCons (fDat (fC (.str "get"))) (fCons (fDat (fC (.str "cells"))) fNil)))) (fCons (fDat (fTup (fCons (fDat (fC (.str "set"))) (fCons (fDat (fC (.str "heap"))) fNil)))) (fCons (fDat (fTup (fCons (fDat (fC (.str "get"))) (fCons (fDat (fC (.str "nowhere"))) fNil)))) (fCons (fDat (fTup (fCons (fDat (fC (.str "get"))) (fCons (fDat (fLst (fCons (fDat (fC (.str "cells"))) fNil))) fNil)))) (fCons (fDat (fTup (fCons (fDat (fC (.str "set"))) (fCons (fDat (fC .none)) fNil)))) fNil))))))))
  (fSeq (fSet 4 (fOp2 true opAdd (fName 4) (fLst (fCons (fDat (fTup (fCons (fDat (fC (.str "get"))) (fCons (fDat (fC (.int (0)))) fNil)))) (fCons (fDat (fTup (fCons (fDat (fC (.str "set"))) fNil))) fNil)))))
  (fSeq (fSet 4 (fOp2 true opAdd (fName 4) (fLst (fCons (fDat (fTup (fCons (fDat (fC (.str "call"))) (fCons (fDat (fName 3)) fNil)))) (fCons (fDat (fTup (fCons (fDat (fC (.str "call"))) (fCons (fDat (fC (.str "nowhere"))) fNil)))) (fCons (fDat (fTup (fCons (fDat (fC (.str "call"))) (fCons (fDat (fLst (fCons (fDat (fName 3)) fNil))) fNil)))) (fCons (fDat (fTup (fCons (fDat (fC (.str "call"))) fNil))) (fCons (fDat (fTup (fCons (fDat (fC (.str "call"))) (fCons (fDat (fName 3)) (fCons (fDat (fTup fNil)) fNil))))) fNil))))))))
  (fSeq (fSet 4 (fOp2 true opAdd (fName 4) (fLst (fCons (fDat (fTup (fCons (fDat (fC (.str "call"))) (fCons (fDat (fC (.int (0)))) fNil)))) fNil))))
  (fSeq (fSet 4 (fOp2 true opAdd (fName 4) (fLst (fCons (fDat (fTup (fCons (fDat (fC (.str "add"))) fNil))) (fCons (fDat (fTup (fCons (fDat (fC (.str "add"))) (fCons (fDat (fC (.int (1)))) fNil)))) (fCons (fDat (fLst (fCons (fDat (fC (.str "add"))) fNil))) (fCons (fDat (fTup (fCons (fDat (fC (.str "Add"))) fNil))) (fCons (fDat (fTup (fCons (fDat (fLst (fCons (fDat (fC (.str "add"))) fNil))) fNil))) (fCons (fDat (fTup (fCons (fDat (fC (.str "goto"))) (fCons (fDat (fC (.int (0)))) fNil)))) (fCons (fDat (fTup (fCons (fDat (fC (.str "word"))) (fCons (fDat (fC (.int (1)))) fNil)))) (fCons (fDat (fTup (fCons (fDat (fC (.str "neg"))) fNil))) fNil)))))))))))
  (fSeq (fSet 4 (fOp2 true opAdd (fName 4) (fLst (fCons (fDat (fTup (fCons (fDat (fC (.str "not"))) (fCons (fDat (fC (.int (0)))) fNil)))) (fCons (fDat (fTup (fCons (fDat (fC (.str "shr"))) fNil))) fNil)))))
  (fSeq (fSet 4 (fOp2 true opAdd (fName 4) (fLst (fCons (fDat (fTup (fCons (fDat (fC (.str "dup"))) fNil))) (fCons (fDat (fTup (fCons (fDat (fC (.str "swap"))) (fCons (fDat (fC (.int (1)))) fNil)))) (fCons (fDat (fTup (fCons (fDat (fC (.str "pop"))) (fCons (fDat (fC .none)) fNil)))) (fCons (fDat (fTup (fCons (fDat (fC (.str "put"))) fNil))) (fCons (fDat (fTup (fCons (fDat (fC (.str "return"))) (fCons (fDat (fC (.int (0)))) fNil)))) (fCons (fDat (fTup (fCons (fDat (fC (.str "trap"))) (fCons (fDat (fTup fNil)) fNil)))) (fCons (fDat (fTup (fCons (fDat (fC (.str "return"))) fNil))) fNil))))))))))
  (fSeq (fSet 4 (fOp2 true opAdd (fName 4) (fLst (fCons (fDat (fTup (fCons (fDat (fC (.str "local"))) (fCons (fDat (fC (.int (0)))) fNil)))) (fCons (fDat (fTup (fCons (fDat (fC .none)) fNil))) fNil)))))
  (fSeq (fSet 4 (fOp2 true opAdd (fName 4) (fLst (fCons (fDat (fTup (fCons (fDat (fC (.str "drop"))) fNil))) (fCons (fDat (fTup (fCons (fDat (fC (.str "if"))) (fCons (fDat (fC (.int (0)))) fNil)))) (fCons (fDat (fTup (fCons (fDat (fC (.str "<"))) fNil))) (fCons (fDat (fTup (fCons (fDat (fName 3)) fNil))) (fCons (fDat (fTup (fCons (fDat (fC (.int (0)))) fNil))) (fCons (fDat (fTup (fCons (fDat (fC (.str "add"))) (fCons (fDat (fC (.str "add"))) fNil)))) (fCons (fDat (fTup (fCons (fDat (fC (.str "push"))) (fCons (fDat (fLst fNil)) fNil)))) fNil))))))))))
  (fRet (fIx opIx (fName 4) (fOwn D_law_draw (fCons (fName 0) (fCons (fDat (fCall false opLen (fCons (fName 4) fNil))) fNil)))))))))))))))))))))))
theorem g_law_odd_row (T : Txt K mg) : Gives P w K mg base CX0 2 "_law_odd_row" (spF D_law_odd_row) := by
  have g_law_draw : Gives P w K mg base CX0 1 "_law_draw" (spF (D_law_draw)) := g_law_draw T
  exact givesF T.d_law_odd_row sc_law_odd_row rfl (by decide) (fun _ _ _ _ _ _ us hl => match us, hl with | [_, _, _, _], _ => rfl) fun f cdv A outer s H E hr =>
      (b_cons (s_set (i := 4) (o_lst (a_consD (o_const pe_non) (a_consD (o_const pe_bl) (a_consD (o_const pe_int) (a_consD (o_const pe_str) (a_consD (o_const pe_str) (a_consD (o_tup a_nil) (a_consD (o_lst a_nil) (a_consD o_dnew (a_consD (o_tup (a_consD (o_const pe_str) a_nil)) (a_consD (o_tup (a_consD (o_const pe_str) (a_consD (o_const pe_bl) a_nil))) (a_consD (o_tup (a_consD (o_const pe_str) (a_consD (o_const (pe_powc 2147483648 ⟨by decide, by decide, by decide⟩ (by decide))) a_nil))) a_nil)))))))))))) (fun _ a => ps_set (i := 4) sc_law_odd_row.nd rfl (Or.inl rfl) a))
      (b_cons (s_set (i := 4) (o_op2 opAdd_ok (o_name (pv 4)) (o_lst (a_consD (o_tup (a_consD (o_const pe_str) (a_consD (o_op2 opSub_ok (o_const (pe_powc 2147483648 ⟨by decide, by decide, by decide⟩ (by decide))) (o_const pe_int)) a_nil))) a_nil))) (fun _ a => ps_set (i := 4) sc_law_odd_row.nd rfl (Or.inl rfl) a))
      (b_cons (s_set (i := 4) (o_op2 opAdd_ok (o_name (pv 4)) (o_lst (a_consD (o_tup (a_consD (o_const pe_str) (a_consD (o_op2 opSub_ok (o_const pe_int) (o_const (pe_powc 2147483648 ⟨by decide, by decide, by decide⟩ (by decide)))) a_nil))) (a_consD (o_tup (a_consD (o_const pe_str) (a_consD (o_op2 opSub_ok (o_op2 opSub_ok (o_const pe_int) (o_const (pe_powc 2147483648 ⟨by decide, by decide, by decide⟩ (by decide)))) (o_const pe_int)) a_nil))) (a_consD (o_tup (a_consD (o_const pe_str) (a_consD (o_const pe_str) a_nil))) (a_consD (o_tup (a_consD (o_const pe_str) (a_consD (o_const pe_non) a_nil))) (a_consD (o_tup (a_consD (o_const pe_str) (a_consD (o_const pe_int) (a_consD (o_const pe_int) a_nil)))) a_nil))))))) (fun _ a => ps_set (i := 4) sc_law_odd_row.nd rfl (Or.inl rfl) a))
      (b_cons (s_set (i := 4) (o_op2 opAdd_ok (o_name (pv 4)) (o_lst (a_consD (o_tup (a_consD (o_const pe_str) (a_consD (o_tup (a_consD (o_const pe_int) a_nil)) a_nil))) a_nil))) (fun _ a => ps_set (i := 4) sc_law_odd_row.nd rfl (Or.inl rfl) a))
      (b_cons (s_set (i := 4) (o_op2 opAdd_ok (o_name (pv 4)) (o_lst (a_consD (o_tup (a_consD (o_const pe_str) (a_consD (o_name (pv 1)) a_nil))) (a_consD (o_tup (a_consD (o_const pe_str) (a_consD (o_op2 opSub_ok (o_name (pv 1)) (o_const pe_int)) a_nil))) (a_consD (o_tup (a_consD (o_const pe_str) (a_consD (o_op2 opSub_ok (o_const pe_int) (o_const pe_int)) a_nil))) (a_consD (o_tup (a_consD (o_const pe_str) (a_consD (o_op2 opSub_ok (o_name (pv 1)) (o_const pe_int)) a_nil))) (a_consD (o_tup (a_consD (o_const pe_str) (a_consD (o_const pe_bl) a_nil))) a_nil))))))) (fun _ a => ps_set (i := 4) sc_law_odd_row.nd rfl (Or.inl rfl) a))
      (b_cons (s_set (i := 4) (o_op2 opAdd_ok (o_name (pv 4)) (o_lst (a_consD (o_tup (a_consD (o_const pe_str) a_nil)) a_nil))) (fun _ a => ps_set (i := 4) sc_law_odd_row.nd rfl (Or.inl rfl) a))
      (b_cons (s_set (i := 4) (o_op2 opAdd_ok (o_name (pv 4)) (o_lst (a_consD (o_tup (a_consD (o_const pe_str) (a_consD (o_name (pv 2)) a_nil))) (a_consD (o_tup (a_consD (o_const pe_str) (a_consD (o_op2 opSub_ok (o_name (pv 2)) (o_const pe_int)) a_nil))) (a_consD (o_tup (a_consD (o_const pe_str) (a_consD (o_op2 opAdd_ok (o_name (pv 2)) (o_const pe_int)) a_nil))) (a_consD (o_tup (a_consD (o_const pe_str) (a_consD (o_op2 opSub_ok (o_const pe_int) (o_const pe_int)) a_nil))) (a_consD (o_tup (a_consD (o_const pe_str) (a_consD (o_const pe_int) a_nil))) a_nil))))))) (fun _ a => ps_set (i := 4) sc_law_odd_row.nd rfl (Or.inl rfl) a))
      (b_cons (s_set (i := 4) (o_op2 opAdd_ok (o_name (pv 4)) (o_lst (a_consD (o_tup (a_consD (o_const pe_str) (a_consD (o_const pe_bl) a_nil))) a_nil))) (fun _ a => ps_set (i := 4) sc_law_odd_row.nd rfl (Or.inl rfl) a))
      (b_cons (s_set (i := 4) (o_op2 opAdd_ok (o_name (pv 4)) (o_lst (a_consD (o_tup (a_consD (o_const pe_str) (a_consD (o_const pe_str) a_nil))) (a_consD (o_tup (a_consD (o_const pe_str) (a_consD (o_const pe_str) a_nil))) (a_consD (o_tup (a_consD (o_const pe_str) (a_consD (o_const pe_str) a_nil))) (a_consD (o_tup (a_consD (o_const pe_str) (a_consD (o_lst (a_consD (o_const pe_str) a_nil)) a_nil))) (a_consD (o_tup (a_consD (o_const pe_str) (a_consD (o_const pe_non) a_nil))) a_nil))))))) (fun _ a => ps_set (i := 4) sc_law_odd_row.nd rfl (Or.inl rfl) a))
      (b_cons (s_set (i := 4) (o_op2 opAdd_ok (o_name (pv 4)) (o_lst (a_consD (o_tup (a_consD (o_const pe_str) (a_consD (o_const pe_int) a_nil))) (a_consD (o_tup (a_consD (o_const pe_str) a_nil)) a_nil)))) (fun _ a => ps_set (i := 4) sc_law_odd_row.nd rfl (Or.inl rfl) a))
      (b_cons (s_set (i := 4) (o_op2 opAdd_ok (o_name (pv 4)) (o_lst (a_consD (o_tup (a_consD (o_const pe_str) (a_consD (o_name (pv 3)) a_nil))) (a_consD (o_tup (a_consD (o_const pe_str) (a_consD (o_const pe_str) a_nil))) (a_consD (o_tup (a_consD (o_const pe_str) (a_consD (o_lst (a_consD (o_name (pv 3)) a_nil)) a_nil))) (a_consD (o_tup (a_consD (o_const pe_str) a_nil)) (a_consD (o_tup (a_consD (o_const pe_str) (a_consD (o_name (pv 3)) (a_consD (o_tup a_nil) a_nil)))) a_nil))))))) (fun _ a => ps_set (i := 4) sc_law_odd_row.nd rfl (Or.inl rfl) a))
      (b_cons (s_set (i := 4) (o_op2 opAdd_ok (o_name (pv 4)) (o_lst (a_consD (o_tup (a_consD (o_const pe_str) (a_consD (o_const pe_int) a_nil))) a_nil))) (fun _ a => ps_set (i := 4) sc_law_odd_row.nd rfl (Or.inl rfl) a))
      (b_cons (s_set (i := 4) (o_op2 opAdd_ok (o_name (pv 4)) (o_lst (a_consD (o_tup (a_consD (o_const pe_str) a_nil)) (a_consD (o_tup (a_consD (o_const pe_str) (a_consD (o_const pe_int) a_nil))) (a_consD (o_lst (a_consD (o_const pe_str) a_nil)) (a_consD (o_tup (a_consD (o_const pe_str) a_nil)) (a_consD (o_tup (a_consD (o_lst (a_consD (o_const pe_str) a_nil)) a_nil)) (a_consD (o_tup (a_consD (o_const pe_str) (a_consD (o_const pe_int) a_nil))) (a_consD (o_tup (a_consD (o_const pe_str) (a_consD (o_const pe_int) a_nil))) (a_consD (o_tup (a_consD (o_const pe_str) a_nil)) a_nil)))))))))) (fun _ a => ps_set (i := 4) sc_law_odd_row.nd rfl (Or.inl rfl) a))
      (b_cons (s_set (i := 4) (o_op2 opAdd_ok (o_name (pv 4)) (o_lst (a_consD (o_tup (a_consD (o_const pe_str) (a_consD (o_const pe_int) a_nil))) (a_consD (o_tup (a_consD (o_const pe_str) a_nil)) a_nil)))) (fun _ a => ps_set (i := 4) sc_law_odd_row.nd rfl (Or.inl rfl) a))
      (b_cons (s_set (i := 4) (o_op2 opAdd_ok (o_name (pv 4)) (o_lst (a_consD (o_tup (a_consD (o_const pe_str) a_nil)) (a_consD (o_tup (a_consD (o_const pe_str) (a_consD (o_const pe_int) a_nil))) (a_consD (o_tup (a_consD (o_const pe_str) (a_consD (o_const pe_non) a_nil))) (a_consD (o_tup (a_consD (o_const pe_str) a_nil)) (a_consD (o_tup (a_consD (o_const pe_str) (a_consD (o_const pe_int) a_nil))) (a_consD (o_tup (a_consD (o_const pe_str) (a_consD (o_tup a_nil) a_nil))) (a_consD (o_tup (a_consD (o_const pe_str) a_nil)) a_nil))))))))) (fun _ a => ps_set (i := 4) sc_law_odd_row.nd rfl (Or.inl rfl) a))
      (b_cons (s_set (i := 4) (o_op2 opAdd_ok (o_name (pv 4)) (o_lst (a_consD (o_tup (a_consD (o_const pe_str) (a_consD (o_const pe_int) a_nil))) (a_consD (o_tup (a_consD (o_const pe_non) a_nil)) a_nil)))) (fun _ a => ps_set (i := 4) sc_law_odd_row.nd rfl (Or.inl rfl) a))
      (b_cons (s_set (i := 4) (o_op2 opAdd_ok (o_name (pv 4)) (o_lst (a_consD (o_tup (a_consD (o_const pe_str) a_nil)) (a_consD (o_tup (a_consD (o_const pe_str) (a_consD (o_const pe_int) a_nil))) (a_consD (o_tup (a_consD (o_const pe_str) a_nil)) (a_consD (o_tup (a_consD (o_name (pv 3)) a_nil)) (a_consD (o_tup (a_consD (o_const pe_int) a_nil)) (a_consD (o_tup (a_consD (o_const pe_str) (a_consD (o_const pe_str) a_nil))) (a_consD (o_tup (a_consD (o_const pe_str) (a_consD (o_lst a_nil) a_nil))) a_nil))))))))) (fun _ a => ps_set (i := 4) sc_law_odd_row.nd rfl (Or.inl rfl) a))
      (b_one (s_ret (o_ix opIx_ok (o_name (pv 4)) (o_own g_law_draw (hr.mono (by omega)) (by rfl) pass0 (a_cons (o_name (pv 0)) (a_consD (o_callB (s := false) opLen_ok (by rfl) T.n_len (by decide +kernel) (a_cons (o_name (pv 4)) a_nil)) a_nil))) (fun _ _ => rfl)))))))))))))))))))))
/-! ### _law_bent_part -/
def D_law_bent_part : FD := runF 2 8 ((fSeq (fAsg (gTup' 4 (gCons' (gN' 2) (gCons' (gN' 3) (gCons' (gN' 4) (gCons' (gN' 5) gNil'))))) (fName 1))
  (fSeq (fSet 6 (fLst (fCons (fDat (fTup (fCons (fDat (fName 2)) (fCons (fDat (fName 3)) (fCons (fDat (fName 4)) fNil))))) (fCons (fDat (fTup (fCons (fDat (fName 2)) (fCons (fDat (fName 4)) (fCons (fDat (fName 3)) fNil))))) (fCons (fDat (fTup (fCons (fDat (fName 2)) (fCons (fDat (fName 3)) (fCons (fDat (fC (.int (200)))) fNil))))) (fCons (fDat (fTup (fCons (fDat (fName 2)) (fCons (fDat (fC (.int (7)))) (fCons (fDat (fC (.int (200)))) fNil))))) fNil))))))
  (fSeq (fDrop (fMut gAppend (fName 6) (fTup (fCons (fDat (fName 2)) (fCons (fDat (fName 3)) (fCons (fDat (fC (.int (201)))) fNil))))))
  (fSeq (fSet 6 (fOp2 true opAdd (fName 6) (fLst (fCons (fDat (fTup (fCons (fDat (fC (.str "put"))) (fCons (fDat (fName 3)) (fCons (fDat (fName 4)) fNil))))) (fCons (fDat (fTup (fCons (fDat (fC (.str "Main"))) (fCons (fDat (fName 3)) (fCons (fDat (fName 4)) fNil))))) (fCons (fDat (fTup (fCons (fDat (fC (.str ""))) (fCons (fDat (fName 3)) (fCons (fDat (fName 4)) fNil))))) (fCons (fDat (fTup (fCons (fDat (fC .none)) (fCons (fDat (fName 3)) (fCons (fDat (fName 4)) fNil))))) fNil)))))))
  (fSeq (fSet 6 (fOp2 true opAdd (fName 6) (fLst (fCons (fDat (fTup (fCons (fDat (fOp2 true opAdd (fName 2) (fC (.str "abcdefghijkl")))) (fCons (fDat (fName 3)) (fCons (fDat (fName 4)) fNil))))) (fCons (fDat (fTup (fCons (fDat (fName 2)) (fCons (fDat (fC (.bool true))) (fCons (fDat (fName 4)) fNil))))) (fCons (fDat (fTup (fCons (fDat (fName 2)) (fCons (fDat (fOp2 true opSub (fC (.int (0))) (fC (.int (1))))) (fCons (fDat (fName 4)) fNil))))) (fCons (fDat (fTup (fCons (fDat (fC (.str "0a"))) (fCons (fDat (fC (.int (0)))) (fCons (fDat (fC (.int (0)))) fNil))))) fNil)))))))
  (fSeq (fSet 6 (fOp2 true opAdd (fName 6) (fLst (fCons (fDat (fTup (fCons (fDat (fName 2)) (fCons (fDat (fName 3)) (fCons (fDat (fC (.bool true))) fNil))))) (fCons (fDat (fTup (fCons (fDat (fName 2)) (fCons (fDat (fName 3)) (fCons (fDat (fCall false opStr (fCons (fName 4) fNil))) fNil))))) (fCons (fDat (fTup (fCons (fDat (fName 2)) (fCons (fDat (fName 3)) fNil)))) (fCons (fDat (fTup (fCons (fDat (fName 2)) (fCons (fDat (fName 3)) (fCons (fDat (fName 4)) (fCons (fDat (fC (.int (0)))) fNil)))))) fNil)))))))
  (fSeq (fIfS (fCmp opEq (fOwn D_law_draw (fCons (fName 0) (fCons (fDat (fC (.int (2)))) fNil))) (fC (.int (0)))) (fRet (fOp2 true opAdd (fIx opIx (fName 6) (fOwn D_law_draw (fCons (fName 0) (fCons (fDat (fC (.int (17)))) fNil)))) (fTup (fCons (fDat (fName 5)) fNil))))
    fSkip)
  (fSeq (fSet 7 (fLst (fCons (fDat (fCall false opList (fCons (fName 5) fNil))) (fCons (fDat (fTup fNil)) (fCons (fDat (fSl opSl (fName 5) (fpure none) (fbind (fC (.int (1))) toI))) (fCons (fDat (fC (.str "trap"))) (fCons (fDat (fC .none)) (fCons (fDat (fIx opIx (fName 5) (fC (.int (0))))) (fCons (fDat (fLst (fCons (fDat (fName 5)) fNil))) fNil)))))))))
  (fSeq (fDrop (fMut gAppend (fName 7) (fOp2 true opAdd (fTup (fCons (fDat (fCall false opList (fCons (fIx opIx (fName 5) (fC (.int (0)))) fNil))) fNil)) (fSl opSl (fName 5) (fbind (fC (.int (1))) toI) (fpure none)))))
  (fRet (fTup (fCons (fDat (fName 2)) (fCons (fDat (fName 3)) (fCons (fDat (fName 4)) (fCons (fDat (fIx opIx (fName 7) (fOwn D_law_draw (fCons (fName 0) (fCons (fDat (fC (.int (8)))) fNil))))) fNil))))))))))))))))
theorem g_law_bent_part (T : Txt K mg) : Gives P w K mg base CX0 2 "_law_bent_part" (spF D_law_bent_part) := by
  have g_law_draw : Gives P w K mg base CX0 1 "_law_draw" (spF (D_law_draw)) := g_law_draw T
  exact givesF T.d_law_bent_part sc_law_bent_part rfl (by decide) (fun _ _ _ _ _ _ us hl => match us, hl with | [_, _], _ => rfl) fun f cdv A outer s H E hr =>
      (b_cons (s_asg (g_tup (g_cons (g_name (pg_name (i := 2) sc_law_bent_part.nd rfl (Or.inl rfl))) (g_cons (g_name (pg_name (i := 3) sc_law_bent_part.nd rfl (Or.inl rfl))) (g_cons (g_name (pg_name (i := 4) sc_law_bent_part.nd rfl (Or.inl rfl))) (g_cons (g_name (pg_name (i := 5) sc_law_bent_part.nd rfl (Or.inl rfl))) g_nil)))) (fun _ a => pg_tup (by rfl) a)) (o_name (pv 1)) (fun _ _ a b => ps_asg a b))
      (b_cons (s_set (i := 6) (o_lst (a_consD (o_tup (a_consD (o_name (pv 2)) (a_consD (o_name (pv 3)) (a_consD (o_name (pv 4)) a_nil)))) (a_consD (o_tup (a_consD (o_name (pv 2)) (a_consD (o_name (pv 4)) (a_consD (o_name (pv 3)) a_nil)))) (a_consD (o_tup (a_consD (o_name (pv 2)) (a_consD (o_name (pv 3)) (a_consD (o_const pe_int) a_nil)))) (a_consD (o_tup (a_consD (o_name (pv 2)) (a_consD (o_const pe_int) (a_consD (o_const pe_int) a_nil)))) a_nil))))) (fun _ a => ps_set (i := 6) sc_law_bent_part.nd rfl (Or.inl rfl) a))
      (b_cons (s_expr (o_append (o_name (pv 6)) (o_tup (a_consD (o_name (pv 2)) (a_consD (o_name (pv 3)) (a_consD (o_const pe_int) a_nil)))) (fun _ _ a b => pe_bm PySem.F.plainAttrs_list PySem.F.slot_list_append PySem.F.type_list_append mt_append a (pa_cons b pa_nil))))
      (b_cons (s_set (i := 6) (o_op2 opAdd_ok (o_name (pv 6)) (o_lst (a_consD (o_tup (a_consD (o_const pe_str) (a_consD (o_name (pv 3)) (a_consD (o_name (pv 4)) a_nil)))) (a_consD (o_tup (a_consD (o_const pe_str) (a_consD (o_name (pv 3)) (a_consD (o_name (pv 4)) a_nil)))) (a_consD (o_tup (a_consD (o_const pe_str) (a_consD (o_name (pv 3)) (a_consD (o_name (pv 4)) a_nil)))) (a_consD (o_tup (a_consD (o_const pe_non) (a_consD (o_name (pv 3)) (a_consD (o_name (pv 4)) a_nil)))) a_nil)))))) (fun _ a => ps_set (i := 6) sc_law_bent_part.nd rfl (Or.inl rfl) a))
      (b_cons (s_set (i := 6) (o_op2 opAdd_ok (o_name (pv 6)) (o_lst (a_consD (o_tup (a_consD (o_op2 opAdd_ok (o_name (pv 2)) (o_const pe_str)) (a_consD (o_name (pv 3)) (a_consD (o_name (pv 4)) a_nil)))) (a_consD (o_tup (a_consD (o_name (pv 2)) (a_consD (o_const pe_bl) (a_consD (o_name (pv 4)) a_nil)))) (a_consD (o_tup (a_consD (o_name (pv 2)) (a_consD (o_op2 opSub_ok (o_const pe_int) (o_const pe_int)) (a_consD (o_name (pv 4)) a_nil)))) (a_consD (o_tup (a_consD (o_const pe_str) (a_consD (o_const pe_int) (a_consD (o_const pe_int) a_nil)))) a_nil)))))) (fun _ a => ps_set (i := 6) sc_law_bent_part.nd rfl (Or.inl rfl) a))
      (b_cons (s_set (i := 6) (o_op2 opAdd_ok (o_name (pv 6)) (o_lst (a_consD (o_tup (a_consD (o_name (pv 2)) (a_consD (o_name (pv 3)) (a_consD (o_const pe_bl) a_nil)))) (a_consD (o_tup (a_consD (o_name (pv 2)) (a_consD (o_name (pv 3)) (a_consD (o_callTy (s := false) opStr_ok (by rfl) T.n_str (by decide +kernel) (a_cons (o_name (pv 4)) a_nil)) a_nil)))) (a_consD (o_tup (a_consD (o_name (pv 2)) (a_consD (o_name (pv 3)) a_nil))) (a_consD (o_tup (a_consD (o_name (pv 2)) (a_consD (o_name (pv 3)) (a_consD (o_name (pv 4)) (a_consD (o_const pe_int) a_nil))))) a_nil)))))) (fun _ a => ps_set (i := 6) sc_law_bent_part.nd rfl (Or.inl rfl) a))
      (b_cons (s_if (t_cmp (opEq_ok (units64 hr)) (o_own g_law_draw (hr.mono (by omega)) (by rfl) pass0 (a_cons (o_name (pv 0)) (a_consD (o_const pe_int) a_nil))) (o_const pe_int) (nomark _)) (b_one (s_ret (o_op2 opAdd_ok (o_ix opIx_ok (o_name (pv 6)) (o_own g_law_draw (hr.mono (by omega)) (by rfl) pass0 (a_cons (o_name (pv 0)) (a_consD (o_const pe_int) a_nil))) (fun _ _ => rfl)) (o_tup (a_consD (o_name (pv 5)) a_nil)))))
    b_nil)
      (b_cons (s_set (i := 7) (o_lst (a_consD (o_callTy (s := false) opList_ok (by rfl) T.n_list (by decide +kernel) (a_cons (o_name (pv 5)) a_nil)) (a_consD (o_tup a_nil) (a_consD (o_slice opSl_ok (o_name (pv 5)) p_none (p_some (o_const pe_int))) (a_consD (o_const pe_str) (a_consD (o_const pe_non) (a_consD (o_ix opIx_ok (o_name (pv 5)) (o_const pe_int) (fun _ _ => rfl)) (a_consD (o_lst (a_consD (o_name (pv 5)) a_nil)) a_nil)))))))) (fun _ a => ps_set (i := 7) sc_law_bent_part.nd rfl (Or.inl rfl) a))
      (b_cons (s_expr (o_append (o_name (pv 7)) (o_op2 opAdd_ok (o_tup (a_consD (o_callTy (s := false) opList_ok (by rfl) T.n_list (by decide +kernel) (a_cons (o_ix opIx_ok (o_name (pv 5)) (o_const pe_int) (fun _ _ => rfl)) a_nil)) a_nil)) (o_slice opSl_ok (o_name (pv 5)) (p_some (o_const pe_int)) p_none)) (fun _ _ a b => pe_bm PySem.F.plainAttrs_list PySem.F.slot_list_append PySem.F.type_list_append mt_append a (pa_cons b pa_nil))))
      (b_one (s_ret (o_tup (a_consD (o_name (pv 2)) (a_consD (o_name (pv 3)) (a_consD (o_name (pv 4)) (a_consD (o_ix opIx_ok (o_name (pv 7)) (o_own g_law_draw (hr.mono (by omega)) (by rfl) pass0 (a_cons (o_name (pv 0)) (a_consD (o_const pe_int) a_nil))) (fun _ _ => rfl)) a_nil))))))))))))))))
/-! ### _law_spoilt -/
def D_law_spoilt : FD := runF 2 14 ((fSeq (fAsg (gTup' 2 (gCons' (gN' 2) (gCons' (gN' 3) gNil'))) (fName 1))
  (fSeq (fPar2 4 5 (fOwn D_law_draw (fCons (fName 0) (fCons (fDat (fCall false opLen (fCons (fName 3) fNil))) fNil))) (fOwn D_law_draw (fCons (fName 0) (fCons (fDat (fC (.int (8)))) fNil))))
  (fSeq (fAsg (gTup' 4 (gCons' (gN' 6) (gCons' (gN' 7) (gCons' (gN' 8) (gCons' (gN' 9) gNil'))))) (fIx opIx (fName 3) (fName 4)))
  (fSeq (fIfS (fCmp opLt (fName 5) (fC (.int (3)))) (fSeq (fPar2 10 11 (fOwn D_law_draw (fCons (fName 0) (fCons (fDat (fCall false opLen (fCons (fName 9) fNil))) fNil))) (fOwn D_law_odd_row (fCons (fName 0) (fCons (fDat (fName 8)) (fCons (fDat (fCall false opLen (fCons (fName 9) fNil))) (fCons (fDat (fName 6)) fNil))))))
  (fSeq (fSet 9 (fOp2 true opAdd (fOp2 true opAdd (fSl opSl (fName 9) (fpure none) (fbind (fName 10) toI)) (fTup (fCons (fDat (fName 11)) fNil))) (fSl opSl (fName 9) (fbind (fOp2 true opAdd (fName 10) (fCall false opInt (fCons (fOp2 false opLt (fName 5) (fC (.int (2)))) fNil))) toI) (fpure none))))
  (fRet (fTup (fCons (fDat (fName 2)) (fCons (fDat (fOp2 true opAdd (fOp2 true opAdd (fSl opSl (fName 3) (fpure none) (fbind (fName 4) toI)) (fTup (fCons (fDat (fTup (fCons (fDat (fName 6)) (fCons (fDat (fName 7)) (fCons (fDat (fName 8)) (fCons (fDat (fName 9)) fNil)))))) fNil))) (fSl opSl (fName 3) (fbind (fOp2 true opAdd (fName 4) (fC (.int (1)))) toI) (fpure none)))) fNil))))))
    fSkip)
  (fSeq (fIfS (fCmp opLt (fName 5) (fC (.int (5)))) (fRet (fTup (fCons (fDat (fName 2)) (fCons (fDat (fOp2 true opAdd (fOp2 true opAdd (fSl opSl (fName 3) (fpure none) (fbind (fName 4) toI)) (fTup (fCons (fDat (fOwn D_law_bent_part (fCons (fName 0) (fCons (fDat (fIx opIx (fName 3) (fName 4))) fNil)))) fNil))) (fSl opSl (fName 3) (fbind (fOp2 true opAdd (fName 4) (fC (.int (1)))) toI) (fpure none)))) fNil))))
    fSkip)
  (fSeq (fIfS (fCmp opEq (fName 5) (fC (.int (5)))) (fSeq (fSet 12 (fLst (fCons (fDat (fTup (fCons (fDat (fTup (fCons (fDat (fC (.str "cells"))) (fCons (fDat (fC (.int (0)))) fNil)))) fNil))) (fCons (fDat (fTup (fCons (fDat (fTup (fCons (fDat (fC (.str "cells"))) (fCons (fDat (fC (.int (257)))) fNil)))) fNil))) (fCons (fDat (fTup (fCons (fDat (fTup (fCons (fDat (fC (.str "cells"))) (fCons (fDat (fC (.int (256)))) fNil)))) fNil))) (fCons (fDat (fTup (fCons (fDat (fTup (fCons (fDat (fC (.str "heap"))) (fCons (fDat (fC (.int (2)))) fNil)))) (fCons (fDat (fTup (fCons (fDat (fC (.str "cells"))) (fCons (fDat (fC (.int (2)))) fNil)))) fNil)))) (fCons (fDat (fOp2 true opMulT (fTup (fCons (fDat (fTup (fCons (fDat (fC (.str "cells"))) (fCons (fDat (fC (.int (2)))) fNil)))) fNil)) (fC (.int (2))))) fNil)))))))
  (fSeq (fSet 12 (fOp2 true opAdd (fName 12) (fLst (fCons (fDat (fLst (fCons (fDat (fTup (fCons (fDat (fC (.str "cells"))) (fCons (fDat (fC (.int (2)))) fNil)))) fNil))) (fCons (fDat (fTup (fCons (fDat (fLst (fCons (fDat (fC (.str "cells"))) (fCons (fDat (fC (.int (2)))) fNil)))) fNil))) (fCons (fDat (fTup (fCons (fDat (fTup (fCons (fDat (fC (.str "cells"))) (fCons (fDat (fC (.bool true))) fNil)))) fNil))) (fCons (fDat (fTup (fCons (fDat (fTup (fCons (fDat (fC (.str "cells"))) fNil))) fNil))) (fCons (fDat (fTup (fCons (fDat (fTup (fCons (fDat (fC (.str "cells"))) (fCons (fDat (fC (.int (2)))) (fCons (fDat (fC (.int (3)))) fNil))))) fNil))) (fCons (fDat (fC .none)) fNil)))))))))
  (fSeq (fSet 12 (fOp2 true opAdd (fName 12) (fLst (fCons (fDat (fTup (fCons (fDat (fC (.str "cells"))) (fCons (fDat (fC (.int (2)))) fNil)))) (fCons (fDat (fTup (fCons (fDat (fTup (fCons (fDat (fC (.str "drop"))) (fCons (fDat (fC (.int (2)))) fNil)))) fNil))) (fCons (fDat (fTup (fCons (fDat (fTup (fCons (fDat (fC (.str "cells"))) (fCons (fDat (fC (.str "2"))) fNil)))) fNil))) (fCons (fDat (fOp2 true opAdd (fName 2) (fTup (fCons (fDat (fTup (fCons (fDat (fC (.str "zz"))) (fCons (fDat (fC (.int (1)))) fNil)))) fNil)))) (fCons (fDat (fTup (fCons (fDat (fTup (fCons (fDat (fLst fNil)) (fCons (fDat (fC (.int (1)))) fNil)))) fNil))) fNil))))))))
  (fSeq (fDrop (fMut gAppend (fName 12) (fTup (fCons (fDat (fTup (fCons (fDat (fC (.str "cells"))) (fCons (fDat (fC (.int (1)))) fNil)))) (fCons (fDat (fTup (fCons (fDat (fC (.str "heap"))) (fCons (fDat (fC (.int (256)))) fNil)))) fNil)))))
  (fRet (fTup (fCons (fDat (fIx opIx (fName 12) (fOwn D_law_draw (fCons (fName 0) (fCons (fDat (fC (.int (17)))) fNil))))) (fCons (fDat (fName 3)) fNil))))))))
    fSkip)
  (fSeq (fIfS (fCmp opEq (fName 5) (fC (.int (6)))) (fSeq (fSet 13 (fLst (fCons (fDat (fRev (fName 3))) (fCons (fDat (fOp2 true opAdd (fName 3) (fName 3))) (fCons (fDat (fCall false opList (fCons (fName 3) fNil))) (fCons (fDat (fIx opIx (fName 3) (fC (.int (0))))) (fCons (fDat (fC .none)) (fCons (fDat (fTup fNil)) (fCons (fDat (fOp2 true opAdd (fName 3) (fTup (fCons (fDat (fIx opIx (fName 3) (fC (.int (0))))) fNil)))) (fCons (fDat (fSl opSl (fName 3) (fpure none) (fbind (fC (.int (1))) toI))) (fCons (fDat (fOp2 true opMulT (fName 3) (fC (.int (13))))) fNil)))))))))))
  (fRet (fTup (fCons (fDat (fName 2)) (fCons (fDat (fIx opIx (fName 13) (fOwn D_law_draw (fCons (fName 0) (fCons (fDat (fC (.int (9)))) fNil))))) fNil)))))
    fSkip)
  (fSeq (fSet 13 (fLst (fCons (fDat (fC .none)) (fCons (fDat (fIx opIx (fName 1) (fC (.int (0))))) (fCons (fDat (fIx opIx (fName 1) (fC (.int (1))))) (fCons (fDat (fCall false opList (fCons (fName 1) fNil))) (fCons (fDat (fOp2 true opAdd (fName 1) (fTup (fCons (fDat (fTup fNil)) fNil)))) (fCons (fDat (fTup (fCons (fDat (fName 1)) fNil))) (fCons (fDat (fC (.str ""))) (fCons (fDat (fC (.dict []))) (fCons (fDat (fC (.int (0)))) (fCons (fDat (fC (.bool true))) (fCons (fDat (fRev (fName 1))) (fCons (fDat (fTup (fCons (fDat (fName 3)) (fCons (fDat (fName 2)) (fCons (fDat (fC (.int (0)))) fNil))))) fNil))))))))))))))
  (fRet (fIx opIx (fName 13) (fOwn D_law_draw (fCons (fName 0) (fCons (fDat (fC (.int (12)))) fNil))))))))))))))
theorem g_law_spoilt (T : Txt K mg) : Gives P w K mg base CX0 3 "_law_spoilt" (spF D_law_spoilt) := by
  have g_law_draw : Gives P w K mg base CX0 1 "_law_draw" (spF (D_law_draw)) := g_law_draw T
  have g_law_bent_part : Gives P w K mg base CX0 2 "_law_bent_part" (spF (D_law_bent_part)) := g_law_bent_part T
  have g_law_odd_row : Gives P w K mg base CX0 2 "_law_odd_row" (spF (D_law_odd_row)) := g_law_odd_row T
  exact givesF T.d_law_spoilt sc_law_spoilt rfl (by decide) (fun _ _ _ _ _ _ us hl => match us, hl with | [_, _], _ => rfl) fun f cdv A outer s H E hr =>
      (b_cons (s_asg (g_tup (g_cons (g_name (pg_name (i := 2) sc_law_spoilt.nd rfl (Or.inl rfl))) (g_cons (g_name (pg_name (i := 3) sc_law_spoilt.nd rfl (Or.inl rfl))) g_nil)) (fun _ a => pg_tup (by rfl) a)) (o_name (pv 1)) (fun _ _ a b => ps_asg a b))
      (b_cons (s_par (o_own g_law_draw (hr.mono (by omega)) (by rfl) pass0 (a_cons (o_name (pv 0)) (a_consD (o_callB (s := false) opLen_ok (by rfl) T.n_len (by decide +kernel) (a_cons (o_name (pv 3)) a_nil)) a_nil))) (o_own g_law_draw (hr.mono (by omega)) (by rfl) pass0 (a_cons (o_name (pv 0)) (a_consD (o_const pe_int) a_nil))) (fun _ _ a b => ps_par (i := 4) (j := 5) (by rfl) sc_law_spoilt.nd rfl rfl (by decide) rfl rfl (pa_cons a (pa_cons b pa_nil)) (by rfl)))
      (b_cons (s_asg (g_tup (g_cons (g_name (pg_name (i := 6) sc_law_spoilt.nd rfl (Or.inl rfl))) (g_cons (g_name (pg_name (i := 7) sc_law_spoilt.nd rfl (Or.inl rfl))) (g_cons (g_name (pg_name (i := 8) sc_law_spoilt.nd rfl (Or.inl rfl))) (g_cons (g_name (pg_name (i := 9) sc_law_spoilt.nd rfl (Or.inl rfl))) g_nil)))) (fun _ a => pg_tup (by rfl) a)) (o_ix opIx_ok (o_name (pv 3)) (o_name (pv 4)) (fun _ _ => rfl)) (fun _ _ a b => ps_asg a b))
      (b_cons (s_if (t_cmp opLt_ok (o_name (pv 5)) (o_const pe_int) (nomark _)) (b_cons (s_par (o_own g_law_draw (hr.mono (by omega)) (by rfl) pass0 (a_cons (o_name (pv 0)) (a_consD (o_callB (s := false) opLen_ok (by rfl) T.n_len (by decide +kernel) (a_cons (o_name (pv 9)) a_nil)) a_nil))) (o_own g_law_odd_row (hr.mono (by omega)) (by rfl) pass0 (a_cons (o_name (pv 0)) (a_consD (o_name (pv 8)) (a_consD (o_callB (s := false) opLen_ok (by rfl) T.n_len (by decide +kernel) (a_cons (o_name (pv 9)) a_nil)) (a_consD (o_name (pv 6)) a_nil))))) (fun _ _ a b => ps_par (i := 10) (j := 11) (by rfl) sc_law_spoilt.nd rfl rfl (by decide) rfl rfl (pa_cons a (pa_cons b pa_nil)) (by rfl)))
      (b_cons (s_set (i := 9) (o_op2 opAdd_ok (o_op2 opAdd_ok (o_slice opSl_ok (o_name (pv 9)) p_none (p_some (o_name (pv 10)))) (o_tup (a_consD (o_name (pv 11)) a_nil))) (o_slice opSl_ok (o_name (pv 9)) (p_some (o_op2 opAdd_ok (o_name (pv 10)) (o_callTy (s := false) opInt_ok (by rfl) T.n_int (by decide +kernel) (a_cons (o_cmp opLt_ok (o_name (pv 5)) (o_const pe_int) (nomark _)) a_nil)))) p_none)) (fun _ a => ps_set (i := 9) sc_law_spoilt.nd rfl (Or.inl rfl) a))
      (b_one (s_ret (o_tup (a_consD (o_name (pv 2)) (a_consD (o_op2 opAdd_ok (o_op2 opAdd_ok (o_slice opSl_ok (o_name (pv 3)) p_none (p_some (o_name (pv 4)))) (o_tup (a_consD (o_tup (a_consD (o_name (pv 6)) (a_consD (o_name (pv 7)) (a_consD (o_name (pv 8)) (a_consD (o_name (pv 9)) a_nil))))) a_nil))) (o_slice opSl_ok (o_name (pv 3)) (p_some (o_op2 opAdd_ok (o_name (pv 4)) (o_const pe_int))) p_none)) a_nil)))))))
    b_nil)
      (b_cons (s_if (t_cmp opLt_ok (o_name (pv 5)) (o_const pe_int) (nomark _)) (b_one (s_ret (o_tup (a_consD (o_name (pv 2)) (a_consD (o_op2 opAdd_ok (o_op2 opAdd_ok (o_slice opSl_ok (o_name (pv 3)) p_none (p_some (o_name (pv 4)))) (o_tup (a_consD (o_own g_law_bent_part (hr.mono (by omega)) (by rfl) pass0 (a_cons (o_name (pv 0)) (a_consD (o_ix opIx_ok (o_name (pv 3)) (o_name (pv 4)) (fun _ _ => rfl)) a_nil))) a_nil))) (o_slice opSl_ok (o_name (pv 3)) (p_some (o_op2 opAdd_ok (o_name (pv 4)) (o_const pe_int))) p_none)) a_nil)))))
    b_nil)
      (b_cons (s_if (t_cmp (opEq_ok (units64 hr)) (o_name (pv 5)) (o_const pe_int) (nomark _)) (b_cons (s_set (i := 12) (o_lst (a_consD (o_tup (a_consD (o_tup (a_consD (o_const pe_str) (a_consD (o_const pe_int) a_nil))) a_nil)) (a_consD (o_tup (a_consD (o_tup (a_consD (o_const pe_str) (a_consD (o_const pe_int) a_nil))) a_nil)) (a_consD (o_tup (a_consD (o_tup (a_consD (o_const pe_str) (a_consD (o_const pe_int) a_nil))) a_nil)) (a_consD (o_tup (a_consD (o_tup (a_consD (o_const pe_str) (a_consD (o_const pe_int) a_nil))) (a_consD (o_tup (a_consD (o_const pe_str) (a_consD (o_const pe_int) a_nil))) a_nil))) (a_consD (o_op2 opMulT_ok (o_tup (a_consD (o_tup (a_consD (o_const pe_str) (a_consD (o_const pe_int) a_nil))) a_nil)) (o_const pe_int)) a_nil)))))) (fun _ a => ps_set (i := 12) sc_law_spoilt.nd rfl (Or.inl rfl) a))
      (b_cons (s_set (i := 12) (o_op2 opAdd_ok (o_name (pv 12)) (o_lst (a_consD (o_lst (a_consD (o_tup (a_consD (o_const pe_str) (a_consD (o_const pe_int) a_nil))) a_nil)) (a_consD (o_tup (a_consD (o_lst (a_consD (o_const pe_str) (a_consD (o_const pe_int) a_nil))) a_nil)) (a_consD (o_tup (a_consD (o_tup (a_consD (o_const pe_str) (a_consD (o_const pe_bl) a_nil))) a_nil)) (a_consD (o_tup (a_consD (o_tup (a_consD (o_const pe_str) a_nil)) a_nil)) (a_consD (o_tup (a_consD (o_tup (a_consD (o_const pe_str) (a_consD (o_const pe_int) (a_consD (o_const pe_int) a_nil)))) a_nil)) (a_consD (o_const pe_non) a_nil)))))))) (fun _ a => ps_set (i := 12) sc_law_spoilt.nd rfl (Or.inl rfl) a))
      (b_cons (s_set (i := 12) (o_op2 opAdd_ok (o_name (pv 12)) (o_lst (a_consD (o_tup (a_consD (o_const pe_str) (a_consD (o_const pe_int) a_nil))) (a_consD (o_tup (a_consD (o_tup (a_consD (o_const pe_str) (a_consD (o_const pe_int) a_nil))) a_nil)) (a_consD (o_tup (a_consD (o_tup (a_consD (o_const pe_str) (a_consD (o_const pe_str) a_nil))) a_nil)) (a_consD (o_op2 opAdd_ok (o_name (pv 2)) (o_tup (a_consD (o_tup (a_consD (o_const pe_str) (a_consD (o_const pe_int) a_nil))) a_nil))) (a_consD (o_tup (a_consD (o_tup (a_consD (o_lst a_nil) (a_consD (o_const pe_int) a_nil))) a_nil)) a_nil))))))) (fun _ a => ps_set (i := 12) sc_law_spoilt.nd rfl (Or.inl rfl) a))
      (b_cons (s_expr (o_append (o_name (pv 12)) (o_tup (a_consD (o_tup (a_consD (o_const pe_str) (a_consD (o_const pe_int) a_nil))) (a_consD (o_tup (a_consD (o_const pe_str) (a_consD (o_const pe_int) a_nil))) a_nil))) (fun _ _ a b => pe_bm PySem.F.plainAttrs_list PySem.F.slot_list_append PySem.F.type_list_append mt_append a (pa_cons b pa_nil))))
      (b_one (s_ret (o_tup (a_consD (o_ix opIx_ok (o_name (pv 12)) (o_own g_law_draw (hr.mono (by omega)) (by rfl) pass0 (a_cons (o_name (pv 0)) (a_consD (o_const pe_int) a_nil))) (fun _ _ => rfl)) (a_consD (o_name (pv 3)) a_nil)))))))))
    b_nil)
      (b_cons (s_if (t_cmp (opEq_ok (units64 hr)) (o_name (pv 5)) (o_const pe_int) (nomark _)) (b_cons (s_set (i := 13) (o_lst (a_consD (o_rev (o_name (pv 3))) (a_consD (o_op2 opAdd_ok (o_name (pv 3)) (o_name (pv 3))) (a_consD (o_callTy (s := false) opList_ok (by rfl) T.n_list (by decide +kernel) (a_cons (o_name (pv 3)) a_nil)) (a_consD (o_ix opIx_ok (o_name (pv 3)) (o_const pe_int) (fun _ _ => rfl)) (a_consD (o_const pe_non) (a_consD (o_tup a_nil) (a_consD (o_op2 opAdd_ok (o_name (pv 3)) (o_tup (a_consD (o_ix opIx_ok (o_name (pv 3)) (o_const pe_int) (fun _ _ => rfl)) a_nil))) (a_consD (o_slice opSl_ok (o_name (pv 3)) p_none (p_some (o_const pe_int))) (a_consD (o_op2 opMulT_ok (o_name (pv 3)) (o_const pe_int)) a_nil)))))))))) (fun _ a => ps_set (i := 13) sc_law_spoilt.nd rfl (Or.inl rfl) a))
      (b_one (s_ret (o_tup (a_consD (o_name (pv 2)) (a_consD (o_ix opIx_ok (o_name (pv 13)) (o_own g_law_draw (hr.mono (by omega)) (by rfl) pass0 (a_cons (o_name (pv 0)) (a_consD (o_const pe_int) a_nil))) (fun _ _ => rfl)) a_nil))))))
    b_nil)
      (b_cons (s_set (i := 13) (o_lst (a_consD (o_const pe_non) (a_consD (o_ix opIx_ok (o_name (pv 1)) (o_const pe_int) (fun _ _ => rfl)) (a_consD (o_ix opIx_ok (o_name (pv 1)) (o_const pe_int) (fun _ _ => rfl)) (a_consD (o_callTy (s := false) opList_ok (by rfl) T.n_list (by decide +kernel) (a_cons (o_name (pv 1)) a_nil)) (a_consD (o_op2 opAdd_ok (o_name (pv 1)) (o_tup (a_consD (o_tup a_nil) a_nil))) (a_consD (o_tup (a_consD (o_name (pv 1)) a_nil)) (a_consD (o_const pe_str) (a_consD o_dnew (a_consD (o_const pe_int) (a_consD (o_const pe_bl) (a_consD (o_rev (o_name (pv 1))) (a_consD (o_tup (a_consD (o_name (pv 3)) (a_consD (o_name (pv 2)) (a_consD (o_const pe_int) a_nil)))) a_nil))))))))))))) (fun _ a => ps_set (i := 13) sc_law_spoilt.nd rfl (Or.inl rfl) a))
      (b_one (s_ret (o_ix opIx_ok (o_name (pv 13)) (o_own g_law_draw (hr.mono (by omega)) (by rfl) pass0 (a_cons (o_name (pv 0)) (a_consD (o_const pe_int) a_nil))) (fun _ _ => rfl))))))))))))
end
end Cb

end

section
set_option maxRecDepth 100000
set_option maxHeartbeats 4000000
set_option autoImplicit false
namespace Cb
open PySem PySem.Spec PyProof.Rows L2
section
variable {P : Program} {w : World} {K : PySem.W.Frag} {mg : Str → Option Value} {base : Heap}
/-! ### _law_asked -/
def D_law_asked : FD := runF 2 3 ((fSeq (fSet 2 (fCall true opRepr3 (fCons (fDat (fName 0)) fNil)))
  (fRet (fAndV (fOp2 false opEq (fCall true opRepr (fCons (fDat (fOwn D_is_code (fCons (fDat (fName 0)) fNil))) fNil)) (fCall true opRepr (fCons (fDat (fName 1)) fNil))) (fOp2 false opEq (fCall true opRepr3 (fCons (fDat (fName 0)) fNil)) (fName 2))))))
theorem g_law_asked (T : Txt K mg) : GivesG P w K mg base CX0 8 "_law_asked" (spF D_law_asked) := by
  have g_is_code : Gives P w K mg base CX0 4 "is_code" (spF (D_is_code)) := g_is_code T
  have gk_is_code : GivesK P w K mg base CX0 4 "is_code" ["value"] (spF (D_is_code)) := gk_is_code T
  exact givesFG T.d_law_asked sc_law_asked rfl (by decide) (fun _ _ _ _ _ _ us hl => match us, hl with | [_, _], _ => rfl) fun f cdv A outer s H E hgd hr =>
      (b_cons (s_set (i := 2) (o_callB (s := true) (opRepr3_ok hgd (unitsR3 hr (by decide))) (by rfl) T.n_repr (by decide +kernel) (a_consD (o_name (pv 0)) a_nil)) (fun _ a => ps_set (i := 2) sc_law_asked.nd rfl (Or.inl rfl) a))
      (b_one (s_ret (o_and (o_cmp (opEq_ok (units64 hr)) (o_callB (s := true) (opRepr_ok hgd (unitsR hr)) (by rfl) T.n_repr (by decide +kernel) (a_consD (o_own g_is_code (hr.mono (by omega)) (by rfl) pass0 (a_consD (o_name (pv 0)) a_nil)) a_nil)) (o_callB (s := true) (opRepr_ok hgd (unitsR hr)) (by rfl) T.n_repr (by decide +kernel) (a_consD (o_name (pv 1)) a_nil)) (nomark _)) (o_one (o_cmp (opEq_ok (units64 hr)) (o_callB (s := true) (opRepr3_ok hgd (unitsR3 hr (by decide))) (by rfl) T.n_repr (by decide +kernel) (a_consD (o_name (pv 0)) a_nil)) (o_name (pv 2)) (nomark _)))))))
end
end Cb

end

section
set_option maxRecDepth 100000
set_option maxHeartbeats 4000000
set_option autoImplicit false
namespace Cb
open PySem PySem.Spec PyProof.Rows L2
section
variable {P : Program} {w : World} {K : PySem.W.Frag} {mg : Str → Option Value} {base : Heap}
/-! ### _law_right -/
def D_law_right : FD := runF 1 4 ((fSeq (fSet 1 (fOwn D_law_plan (fCons (fName 0) (fCons (fDat (fC (.int (3)))) (fCons (fDat (fC (.int (4)))) fNil)))))
  (fSeq (fIfS (fOr (fNot (fTru (fOwn D_law_is_plan (fCons (fDat (fName 1)) fNil)))) (fNot (fTru (fOwn D_law_asked (fCons (fDat (fName 1)) (fCons (fDat (fC (.bool true))) fNil)))))) (fRet (fC (.bool false)))
    fSkip)
  (fSeq (fFor (fbind (fCons (fC (.int (60))) fNil) fun rs => if rs.length = 1 then fRange (fpure rs) else fun _ => none) (gN' 2)
    (fSeq (fSet 3 (fOwn D_law_spoilt (fCons (fName 0) (fCons (fDat (fName 1)) fNil))))
  (fIfS (fNot (fTru (fOwn D_law_asked (fCons (fDat (fName 3)) (fCons (fDat (fOwn D_law_is_plan (fCons (fDat (fName 3)) fNil))) fNil))))) (fRet (fC (.bool false)))
    fSkip)))
  (fRet (fAndV (fOp2 false opIsB (fOwn D_is_code (fCons (fDat (fName 1)) fNil)) (fC (.bool true))) (fOp2 false opIsB (fOwn D_is_code (fCons (fDat (fC .none)) fNil)) (fC (.bool false)))))))))
theorem g_law_right (T : Txt K mg) : GivesG P w K mg base CX0 9 "_law_right" (spF D_law_right) := by
  have g_is_code : Gives P w K mg base CX0 4 "is_code" (spF (D_is_code)) := g_is_code T
  have g_law_asked : GivesG P w K mg base CX0 8 "_law_asked" (spF (D_law_asked)) := g_law_asked T
  have g_law_is_plan : Gives P w K mg base CX0 3 "_law_is_plan" (spF (D_law_is_plan)) := g_law_is_plan T
  have g_law_spoilt : Gives P w K mg base CX0 3 "_law_spoilt" (spF (D_law_spoilt)) := g_law_spoilt T
  have g_law_plan : Gives P w K mg base CX0 6 "_law_plan" (spF (D_law_plan)) := g_law_plan T
  have gk_is_code : GivesK P w K mg base CX0 4 "is_code" ["value"] (spF (D_is_code)) := gk_is_code T
  exact givesFG T.d_law_right sc_law_right rfl (by decide) (fun _ _ _ _ _ _ us hl => match us, hl with | [_], _ => rfl) fun f cdv A outer s H E hgd hr =>
      (b_cons (s_set (i := 1) (o_own g_law_plan (hr.mono (by omega)) (by rfl) pass0 (a_cons (o_name (pv 0)) (a_consD (o_const pe_int) (a_consD (o_const pe_int) a_nil)))) (fun _ a => ps_set (i := 1) sc_law_right.nd rfl (Or.inl rfl) a))
      (b_cons (s_if (t_w (w_or (t_not (t_truth (o_own g_law_is_plan (hr.mono (by omega)) (by rfl) pass0 (a_consD (o_name (pv 1)) a_nil)))) (w_or1 (t_not (t_truth (o_ownG g_law_asked hgd (hr.mono (by omega)) (by rfl) pass0 (a_consD (o_name (pv 1)) (a_consD (o_const pe_bl) a_nil)))))))) (b_one (s_ret (o_const pe_bl)))
    b_nil)
      (b_cons (s_for (i_range1 (by rfl) T.n_range (a_cons (o_const pe_int) a_nil)) (g_name (pg_name (i := 2) sc_law_right.nd rfl (Or.inl rfl)))
    (b_cons (s_set (i := 3) (o_own g_law_spoilt (hr.mono (by omega)) (by rfl) pass0 (a_cons (o_name (pv 0)) (a_consD (o_name (pv 1)) a_nil))) (fun _ a => ps_set (i := 3) sc_law_right.nd rfl (Or.inl rfl) a))
      (b_one (s_if (t_not (t_truth (o_ownG g_law_asked hgd (hr.mono (by omega)) (by rfl) pass0 (a_consD (o_name (pv 3)) (a_consD (o_own g_law_is_plan (hr.mono (by omega)) (by rfl) pass0 (a_consD (o_name (pv 3)) a_nil)) a_nil))))) (b_one (s_ret (o_const pe_bl)))
    b_nil))) (fun _ _ _ a b c => ps_for PassesOwn.never rfl a b c))
      (b_one (s_ret (o_and (o_cmp opIsB_ok (o_ownK (ks := ["value"]) (fun as r h => runF_len (np := 1) h) gk_is_code (hr.mono (by omega)) (by rfl) pass0 (k_consD (o_name (pv 1)) k_nil)) (o_const pe_bl) (nomark _)) (o_one (o_cmp opIsB_ok (o_ownK (ks := ["value"]) (fun as r h => runF_len (np := 1) h) gk_is_code (hr.mono (by omega)) (by rfl) pass0 (k_consD (o_const pe_non) k_nil)) (o_const pe_bl) (nomark _)))))))))
end
end Cb

end

section
set_option maxRecDepth 100000
set_option maxHeartbeats 4000000
set_option autoImplicit false
namespace Cb
open PySem PySem.Spec PyProof.Rows L2
section
variable {P : Program} {w : World} {K : PySem.W.Frag} {mg : Str → Option Value} {base : Heap}
/-! ### _law_limits_right -/
def D_law_limits_right : FD := runF 0 9 ((fSeq (fAsg (gTup' 2 (gCons' (gN' 0) (gCons' (gN' 1) gNil'))) (fTup (fCons (fDat (fTup (fCons (fDat (fTup (fCons (fDat (fC (.str "trap"))) fNil))) fNil))) (fCons (fDat (fLc (fIter (fC (.str "abcdefghijklm"))) (gN' 2) (fpure true) (fDat (fOp2 true opAdd (fC (.str "f")) (fName 2))) [2])) fNil))))
  (fSeq (fSet 3 (fLst (fCons (fDat (fTup (fCons (fDat (fTup fNil)) (fCons (fDat (fTup (fCons (fDat (fTup (fCons (fDat (fC (.str "main"))) (fCons (fDat (fC (.int (6)))) (fCons (fDat (fC (.int (6)))) (fCons (fDat (fName 0)) fNil)))))) fNil))) fNil)))) (fCons (fDat (fTup (fCons (fDat (fTup fNil)) (fCons (fDat (fTup (fCons (fDat (fTup (fCons (fDat (fC (.str "main"))) (fCons (fDat (fC (.int (0)))) (fCons (fDat (fC (.int (200)))) (fCons (fDat (fName 0)) fNil)))))) fNil))) fNil)))) (fCons (fDat (fTup (fCons (fDat (fTup fNil)) (fCons (fDat (fTup (fCons (fDat (fTup (fCons (fDat (fC (.str "main"))) (fCons (fDat (fC (.int (0)))) (fCons (fDat (fC (.int (0)))) (fCons (fDat (fOp2 true opMulTB (fName 0) (fC (.int (10000))))) fNil)))))) fNil))) fNil)))) fNil)))))
  (fSeq (fSet 3 (fOp2 true opAdd (fName 3) (fLst (fCons (fDat (fTup (fCons (fDat (fTup fNil)) (fCons (fDat (fCall true opTuple (fCons (fDat (fLc (fIter (fSl opSl (fName 1) (fpure none) (fbind (fC (.int (12))) toI))) (gN' 4) (fpure true) (fDat (fTup (fCons (fDat (fName 4)) (fCons (fDat (fC (.int (0)))) (fCons (fDat (fC (.int (0)))) (fCons (fDat (fName 0)) fNil)))))) [4])) fNil))) fNil)))) (fCons (fDat (fTup (fCons (fDat (fTup fNil)) (fCons (fDat (fTup (fCons (fDat (fTup (fCons (fDat (fOp2 true opMulS (fC (.str "a")) (fC (.int (12))))) (fCons (fDat (fC (.int (0)))) (fCons (fDat (fC (.int (0)))) (fCons (fDat (fName 0)) fNil)))))) fNil))) fNil)))) fNil)))))
  (fSeq (fDrop (fMut gAppend (fName 3) (fTup (fCons (fDat (fCall true opTuple (fCons (fDat (fLc (fIter (fSl opSl (fName 1) (fpure none) (fbind (fC (.int (8))) toI))) (gN' 4) (fpure true) (fDat (fTup (fCons (fDat (fName 4)) (fCons (fDat (fC (.int (256)))) fNil)))) [4])) fNil))) (fCons (fDat (fTup (fCons (fDat (fTup (fCons (fDat (fC (.str "fa"))) (fCons (fDat (fC (.int (0)))) (fCons (fDat (fC (.int (0)))) (fCons (fDat (fName 0)) fNil)))))) fNil))) fNil)))))
  (fSeq (fDrop (fMut gAppend (fName 3) (fTup (fCons (fDat (fTup fNil)) (fCons (fDat (fTup (fCons (fDat (fTup (fCons (fDat (fC (.str "array1"))) (fCons (fDat (fC (.int (0)))) (fCons (fDat (fC (.int (0)))) (fCons (fDat (fTup (fCons (fDat (fTup (fCons (fDat (fC (.str "add"))) fNil))) fNil))) fNil)))))) fNil))) fNil)))))
  (fSeq (fSet 5 (fLst (fCons (fDat (fTup (fCons (fDat (fTup fNil)) (fCons (fDat (fTup (fCons (fDat (fTup (fCons (fDat (fC (.str "main"))) (fCons (fDat (fC (.int (7)))) (fCons (fDat (fC (.int (7)))) (fCons (fDat (fName 0)) fNil)))))) fNil))) fNil)))) (fCons (fDat (fTup (fCons (fDat (fTup fNil)) (fCons (fDat (fTup (fCons (fDat (fTup (fCons (fDat (fC (.str "main"))) (fCons (fDat (fC (.int (0)))) (fCons (fDat (fC (.int (201)))) (fCons (fDat (fName 0)) fNil)))))) fNil))) fNil)))) (fCons (fDat (fTup (fCons (fDat (fTup fNil)) (fCons (fDat (fTup (fCons (fDat (fTup (fCons (fDat (fC (.str "main"))) (fCons (fDat (fC (.int (0)))) (fCons (fDat (fC (.int (0)))) (fCons (fDat (fOp2 true opMulTB (fName 0) (fC (.int (10001))))) fNil)))))) fNil))) fNil)))) fNil)))))
  (fSeq (fSet 5 (fOp2 true opAdd (fName 5) (fLst (fCons (fDat (fTup (fCons (fDat (fTup fNil)) (fCons (fDat (fCall true opTuple (fCons (fDat (fLc (fIter (fName 1)) (gN' 4) (fpure true) (fDat (fTup (fCons (fDat (fName 4)) (fCons (fDat (fC (.int (0)))) (fCons (fDat (fC (.int (0)))) (fCons (fDat (fName 0)) fNil)))))) [4])) fNil))) fNil)))) (fCons (fDat (fTup (fCons (fDat (fTup fNil)) (fCons (fDat (fTup (fCons (fDat (fTup (fCons (fDat (fOp2 true opMulS (fC (.str "a")) (fC (.int (13))))) (fCons (fDat (fC (.int (0)))) (fCons (fDat (fC (.int (0)))) (fCons (fDat (fName 0)) fNil)))))) fNil))) fNil)))) (fCons (fDat (fTup (fCons (fDat (fTup fNil)) (fCons (fDat (fTup fNil)) fNil)))) fNil))))))
  (fSeq (fDrop (fMut gAppend (fName 5) (fTup (fCons (fDat (fCall true opTuple (fCons (fDat (fLc (fIter (fSl opSl (fName 1) (fpure none) (fbind (fC (.int (9))) toI))) (gN' 4) (fpure true) (fDat (fTup (fCons (fDat (fName 4)) (fCons (fDat (fC (.int (1)))) fNil)))) [4])) fNil))) (fCons (fDat (fTup (fCons (fDat (fTup (fCons (fDat (fC (.str "main"))) (fCons (fDat (fC (.int (0)))) (fCons (fDat (fC (.int (0)))) (fCons (fDat (fName 0)) fNil)))))) fNil))) fNil)))))
  (fSeq (fSet 5 (fOp2 true opAdd (fName 5) (fLst (fCons (fDat (fTup (fCons (fDat (fTup (fCons (fDat (fTup (fCons (fDat (fC (.str "a"))) (fCons (fDat (fC (.int (0)))) fNil)))) fNil))) (fCons (fDat (fTup (fCons (fDat (fTup (fCons (fDat (fC (.str "main"))) (fCons (fDat (fC (.int (0)))) (fCons (fDat (fC (.int (0)))) (fCons (fDat (fName 0)) fNil)))))) fNil))) fNil)))) (fCons (fDat (fTup (fCons (fDat (fTup (fCons (fDat (fTup (fCons (fDat (fC (.str "a"))) (fCons (fDat (fC (.int (257)))) fNil)))) fNil))) (fCons (fDat (fTup (fCons (fDat (fTup (fCons (fDat (fC (.str "main"))) (fCons (fDat (fC (.int (0)))) (fCons (fDat (fC (.int (0)))) (fCons (fDat (fName 0)) fNil)))))) fNil))) fNil)))) fNil)))))
  (fSeq (fDrop (fMut gAppend (fName 5) (fTup (fCons (fDat (fTup fNil)) (fCons (fDat (fTup (fCons (fDat (fTup (fCons (fDat (fC (.str "main"))) (fCons (fDat (fC (.int (2)))) (fCons (fDat (fC (.int (1)))) (fCons (fDat (fName 0)) fNil)))))) fNil))) fNil)))))
  (fSeq (fSet 6 (fTup fNil))
  (fSeq (fFor (fbind (fCons (fC (.int (290))) fNil) fun rs => if rs.length = 1 then fRange (fpure rs) else fun _ => none) (gN' 7)
    (fSet 6 (fTup (fCons (fDat (fName 6)) fNil))))
  (fSeq (fSet 5 (fOp2 true opAdd (fName 5) (fLst (fCons (fDat (fName 6)) (fCons (fDat (fTup (fCons (fDat (fName 6)) (fCons (fDat (fName 6)) fNil)))) (fCons (fDat (fTup (fCons (fDat (fTup fNil)) (fCons (fDat (fTup (fCons (fDat (fTup (fCons (fDat (fC (.str "main"))) (fCons (fDat (fC (.int (0)))) (fCons (fDat (fC (.int (0)))) (fCons (fDat (fTup (fCons (fDat (fName 6)) fNil))) fNil)))))) fNil))) fNil)))) (fCons (fDat (fTup (fCons (fDat (fTup fNil)) (fCons (fDat (fTup (fCons (fDat (fTup (fCons (fDat (fC (.str "main"))) (fCons (fDat (fC (.int (0)))) (fCons (fDat (fC (.int (0)))) (fCons (fDat (fTup (fCons (fDat (fTup (fCons (fDat (fC (.str "push"))) (fCons (fDat (fName 6)) fNil)))) fNil))) fNil)))))) fNil))) fNil)))) fNil)))))))
  (fRet (fAndV (fCall false opAll (fCons (fLc (fIter (fName 3)) (gN' 8) (fpure true) (fDat (fOwn D_law_asked (fCons (fDat (fName 8)) (fCons (fDat (fC (.bool true))) fNil)))) [8]) fNil)) (fCall false opAll (fCons (fLc (fIter (fName 5)) (gN' 8) (fpure true) (fDat (fOwn D_law_asked (fCons (fDat (fName 8)) (fCons (fDat (fC (.bool false))) fNil)))) [8]) fNil))))))))))))))))))
theorem g_law_limits_right (T : Txt K mg) : GivesG P w K mg base CX0 9 "_law_limits_right" (spF D_law_limits_right) := by
  have g_law_asked : GivesG P w K mg base CX0 8 "_law_asked" (spF (D_law_asked)) := g_law_asked T
  exact givesFG T.d_law_limits_right sc_law_limits_right rfl (by decide) (fun _ _ _ _ _ _ us hl => match us, hl with | [], _ => rfl) fun f cdv A outer s H E hgd hr =>
      (b_cons (s_asg (g_tup (g_cons (g_name (pg_name (i := 0) sc_law_limits_right.nd rfl (Or.inr rfl))) (g_cons (g_name (pg_name (i := 1) sc_law_limits_right.nd rfl (Or.inl rfl))) g_nil)) (fun _ a => pg_tup (by rfl) a)) (o_tup (a_consD (o_tup (a_consD (o_tup (a_consD (o_const pe_str) a_nil)) a_nil)) (a_consD (o_lc (own := [("_law_letter", 2)]) rfl sc_law_limits_right.nd (i_val (o_const pe_str)) (blkOk_by (N := ["_law_trap", "_law_names", "_law_letter", "_law_some", "_law_title", "_law_far", "_law_deep", "_law_turn", "_law_thing"]) (sc := defScope s_law_limits_right) (by decide +kernel)) (fun _ _ _ _ _ => (g_name (pg_name (i := 2) sc_law_limits_right.nd rfl (Or.inl rfl)))) (fun _ _ _ _ _ => ts_nil) (fun _ _ _ _ _ => (o_op2 opAdd_ok (o_const pe_str) (o_name (pv 2))))) a_nil))) (fun _ _ a b => ps_asg a b))
      (b_cons (s_set (i := 3) (o_lst (a_consD (o_tup (a_consD (o_tup a_nil) (a_consD (o_tup (a_consD (o_tup (a_consD (o_const pe_str) (a_consD (o_const pe_int) (a_consD (o_const pe_int) (a_consD (o_name (pv 0)) a_nil))))) a_nil)) a_nil))) (a_consD (o_tup (a_consD (o_tup a_nil) (a_consD (o_tup (a_consD (o_tup (a_consD (o_const pe_str) (a_consD (o_const pe_int) (a_consD (o_const pe_int) (a_consD (o_name (pv 0)) a_nil))))) a_nil)) a_nil))) (a_consD (o_tup (a_consD (o_tup a_nil) (a_consD (o_tup (a_consD (o_tup (a_consD (o_const pe_str) (a_consD (o_const pe_int) (a_consD (o_const pe_int) (a_consD (o_op2 opMulTB_ok (o_name (pv 0)) (o_const pe_int)) a_nil))))) a_nil)) a_nil))) a_nil)))) (fun _ a => ps_set (i := 3) sc_law_limits_right.nd rfl (Or.inl rfl) a))
      (b_cons (s_set (i := 3) (o_op2 opAdd_ok (o_name (pv 3)) (o_lst (a_consD (o_tup (a_consD (o_tup a_nil) (a_consD (o_callTy (s := true) opTuple_ok (by rfl) T.n_tuple (by decide +kernel) (a_consD (o_lc (own := [("_law_title", 4)]) rfl sc_law_limits_right.nd (i_val (o_slice opSl_ok (o_name (pv 1)) p_none (p_some (o_const pe_int)))) (blkOk_by (N := ["_law_trap", "_law_names", "_law_letter", "_law_some", "_law_title", "_law_far", "_law_deep", "_law_turn", "_law_thing"]) (sc := defScope s_law_limits_right) (by decide +kernel)) (fun _ _ _ _ _ => (g_name (pg_name (i := 4) sc_law_limits_right.nd rfl (Or.inl rfl)))) (fun _ _ _ _ _ => ts_nil) (fun _ _ _ _ _ => (o_tup (a_consD (o_name (pv 4)) (a_consD (o_const pe_int) (a_consD (o_const pe_int) (a_consD (o_name (pv 0)) a_nil))))))) a_nil)) a_nil))) (a_consD (o_tup (a_consD (o_tup a_nil) (a_consD (o_tup (a_consD (o_tup (a_consD (o_op2 opMulS_ok (o_const pe_str) (o_const pe_int)) (a_consD (o_const pe_int) (a_consD (o_const pe_int) (a_consD (o_name (pv 0)) a_nil))))) a_nil)) a_nil))) a_nil)))) (fun _ a => ps_set (i := 3) sc_law_limits_right.nd rfl (Or.inl rfl) a))
      (b_cons (s_expr (o_append (o_name (pv 3)) (o_tup (a_consD (o_callTy (s := true) opTuple_ok (by rfl) T.n_tuple (by decide +kernel) (a_consD (o_lc (own := [("_law_title", 4)]) rfl sc_law_limits_right.nd (i_val (o_slice opSl_ok (o_name (pv 1)) p_none (p_some (o_const pe_int)))) (blkOk_by (N := ["_law_trap", "_law_names", "_law_letter", "_law_some", "_law_title", "_law_far", "_law_deep", "_law_turn", "_law_thing"]) (sc := defScope s_law_limits_right) (by decide +kernel)) (fun _ _ _ _ _ => (g_name (pg_name (i := 4) sc_law_limits_right.nd rfl (Or.inl rfl)))) (fun _ _ _ _ _ => ts_nil) (fun _ _ _ _ _ => (o_tup (a_consD (o_name (pv 4)) (a_consD (o_const pe_int) a_nil))))) a_nil)) (a_consD (o_tup (a_consD (o_tup (a_consD (o_const pe_str) (a_consD (o_const pe_int) (a_consD (o_const pe_int) (a_consD (o_name (pv 0)) a_nil))))) a_nil)) a_nil))) (fun _ _ a b => pe_bm PySem.F.plainAttrs_list PySem.F.slot_list_append PySem.F.type_list_append mt_append a (pa_cons b pa_nil))))
      (b_cons (s_expr (o_append (o_name (pv 3)) (o_tup (a_consD (o_tup a_nil) (a_consD (o_tup (a_consD (o_tup (a_consD (o_const pe_str) (a_consD (o_const pe_int) (a_consD (o_const pe_int) (a_consD (o_tup (a_consD (o_tup (a_consD (o_const pe_str) a_nil)) a_nil)) a_nil))))) a_nil)) a_nil))) (fun _ _ a b => pe_bm PySem.F.plainAttrs_list PySem.F.slot_list_append PySem.F.type_list_append mt_append a (pa_cons b pa_nil))))
      (b_cons (s_set (i := 5) (o_lst (a_consD (o_tup (a_consD (o_tup a_nil) (a_consD (o_tup (a_consD (o_tup (a_consD (o_const pe_str) (a_consD (o_const pe_int) (a_consD (o_const pe_int) (a_consD (o_name (pv 0)) a_nil))))) a_nil)) a_nil))) (a_consD (o_tup (a_consD (o_tup a_nil) (a_consD (o_tup (a_consD (o_tup (a_consD (o_const pe_str) (a_consD (o_const pe_int) (a_consD (o_const pe_int) (a_consD (o_name (pv 0)) a_nil))))) a_nil)) a_nil))) (a_consD (o_tup (a_consD (o_tup a_nil) (a_consD (o_tup (a_consD (o_tup (a_consD (o_const pe_str) (a_consD (o_const pe_int) (a_consD (o_const pe_int) (a_consD (o_op2 opMulTB_ok (o_name (pv 0)) (o_const pe_int)) a_nil))))) a_nil)) a_nil))) a_nil)))) (fun _ a => ps_set (i := 5) sc_law_limits_right.nd rfl (Or.inl rfl) a))
      (b_cons (s_set (i := 5) (o_op2 opAdd_ok (o_name (pv 5)) (o_lst (a_consD (o_tup (a_consD (o_tup a_nil) (a_consD (o_callTy (s := true) opTuple_ok (by rfl) T.n_tuple (by decide +kernel) (a_consD (o_lc (own := [("_law_title", 4)]) rfl sc_law_limits_right.nd (i_val (o_name (pv 1))) (blkOk_by (N := ["_law_trap", "_law_names", "_law_letter", "_law_some", "_law_title", "_law_far", "_law_deep", "_law_turn", "_law_thing"]) (sc := defScope s_law_limits_right) (by decide +kernel)) (fun _ _ _ _ _ => (g_name (pg_name (i := 4) sc_law_limits_right.nd rfl (Or.inl rfl)))) (fun _ _ _ _ _ => ts_nil) (fun _ _ _ _ _ => (o_tup (a_consD (o_name (pv 4)) (a_consD (o_const pe_int) (a_consD (o_const pe_int) (a_consD (o_name (pv 0)) a_nil))))))) a_nil)) a_nil))) (a_consD (o_tup (a_consD (o_tup a_nil) (a_consD (o_tup (a_consD (o_tup (a_consD (o_op2 opMulS_ok (o_const pe_str) (o_const pe_int)) (a_consD (o_const pe_int) (a_consD (o_const pe_int) (a_consD (o_name (pv 0)) a_nil))))) a_nil)) a_nil))) (a_consD (o_tup (a_consD (o_tup a_nil) (a_consD (o_tup a_nil) a_nil))) a_nil))))) (fun _ a => ps_set (i := 5) sc_law_limits_right.nd rfl (Or.inl rfl) a))
      (b_cons (s_expr (o_append (o_name (pv 5)) (o_tup (a_consD (o_callTy (s := true) opTuple_ok (by rfl) T.n_tuple (by decide +kernel) (a_consD (o_lc (own := [("_law_title", 4)]) rfl sc_law_limits_right.nd (i_val (o_slice opSl_ok (o_name (pv 1)) p_none (p_some (o_const pe_int)))) (blkOk_by (N := ["_law_trap", "_law_names", "_law_letter", "_law_some", "_law_title", "_law_far", "_law_deep", "_law_turn", "_law_thing"]) (sc := defScope s_law_limits_right) (by decide +kernel)) (fun _ _ _ _ _ => (g_name (pg_name (i := 4) sc_law_limits_right.nd rfl (Or.inl rfl)))) (fun _ _ _ _ _ => ts_nil) (fun _ _ _ _ _ => (o_tup (a_consD (o_name (pv 4)) (a_consD (o_const pe_int) a_nil))))) a_nil)) (a_consD (o_tup (a_consD (o_tup (a_consD (o_const pe_str) (a_consD (o_const pe_int) (a_consD (o_const pe_int) (a_consD (o_name (pv 0)) a_nil))))) a_nil)) a_nil))) (fun _ _ a b => pe_bm PySem.F.plainAttrs_list PySem.F.slot_list_append PySem.F.type_list_append mt_append a (pa_cons b pa_nil))))
      (b_cons (s_set (i := 5) (o_op2 opAdd_ok (o_name (pv 5)) (o_lst (a_consD (o_tup (a_consD (o_tup (a_consD (o_tup (a_consD (o_const pe_str) (a_consD (o_const pe_int) a_nil))) a_nil)) (a_consD (o_tup (a_consD (o_tup (a_consD (o_const pe_str) (a_consD (o_const pe_int) (a_consD (o_const pe_int) (a_consD (o_name (pv 0)) a_nil))))) a_nil)) a_nil))) (a_consD (o_tup (a_consD (o_tup (a_consD (o_tup (a_consD (o_const pe_str) (a_consD (o_const pe_int) a_nil))) a_nil)) (a_consD (o_tup (a_consD (o_tup (a_consD (o_const pe_str) (a_consD (o_const pe_int) (a_consD (o_const pe_int) (a_consD (o_name (pv 0)) a_nil))))) a_nil)) a_nil))) a_nil)))) (fun _ a => ps_set (i := 5) sc_law_limits_right.nd rfl (Or.inl rfl) a))
      (b_cons (s_expr (o_append (o_name (pv 5)) (o_tup (a_consD (o_tup a_nil) (a_consD (o_tup (a_consD (o_tup (a_consD (o_const pe_str) (a_consD (o_const pe_int) (a_consD (o_const pe_int) (a_consD (o_name (pv 0)) a_nil))))) a_nil)) a_nil))) (fun _ _ a b => pe_bm PySem.F.plainAttrs_list PySem.F.slot_list_append PySem.F.type_list_append mt_append a (pa_cons b pa_nil))))
      (b_cons (s_set (i := 6) (o_tup a_nil) (fun _ a => ps_set (i := 6) sc_law_limits_right.nd rfl (Or.inl rfl) a))
      (b_cons (s_for (i_range1 (by rfl) T.n_range (a_cons (o_const pe_int) a_nil)) (g_name (pg_name (i := 7) sc_law_limits_right.nd rfl (Or.inl rfl)))
    (b_one (s_set (i := 6) (o_tup (a_consD (o_name (pv 6)) a_nil)) (fun _ a => ps_set (i := 6) sc_law_limits_right.nd rfl (Or.inl rfl) a))) (fun _ _ _ a b c => ps_for PassesOwn.never rfl a b c))
      (b_cons (s_set (i := 5) (o_op2 opAdd_ok (o_name (pv 5)) (o_lst (a_consD (o_name (pv 6)) (a_consD (o_tup (a_consD (o_name (pv 6)) (a_consD (o_name (pv 6)) a_nil))) (a_consD (o_tup (a_consD (o_tup a_nil) (a_consD (o_tup (a_consD (o_tup (a_consD (o_const pe_str) (a_consD (o_const pe_int) (a_consD (o_const pe_int) (a_consD (o_tup (a_consD (o_name (pv 6)) a_nil)) a_nil))))) a_nil)) a_nil))) (a_consD (o_tup (a_consD (o_tup a_nil) (a_consD (o_tup (a_consD (o_tup (a_consD (o_const pe_str) (a_consD (o_const pe_int) (a_consD (o_const pe_int) (a_consD (o_tup (a_consD (o_tup (a_consD (o_const pe_str) (a_consD (o_name (pv 6)) a_nil))) a_nil)) a_nil))))) a_nil)) a_nil))) a_nil)))))) (fun _ a => ps_set (i := 5) sc_law_limits_right.nd rfl (Or.inl rfl) a))
      (b_one (s_ret (o_and (o_callB (s := false) (opAll_ok rfl) (by rfl) T.n_all (by decide +kernel) (a_cons (o_lc (own := [("_law_thing", 8)]) rfl sc_law_limits_right.nd (i_val (o_name (pv 3))) (blkOk_by (N := ["_law_trap", "_law_names", "_law_letter", "_law_some", "_law_title", "_law_far", "_law_deep", "_law_turn", "_law_thing"]) (sc := defScope s_law_limits_right) (by decide +kernel)) (fun _ _ _ _ _ => (g_name (pg_name (i := 8) sc_law_limits_right.nd rfl (Or.inl rfl)))) (fun _ _ _ _ _ => ts_nil) (fun _ _ _ _ _ => (o_ownG g_law_asked hgd (hr.mono (by omega)) (by rfl) pass0 (a_consD (o_name (pv 8)) (a_consD (o_const pe_bl) a_nil))))) a_nil)) (o_one (o_callB (s := false) (opAll_ok rfl) (by rfl) T.n_all (by decide +kernel) (a_cons (o_lc (own := [("_law_thing", 8)]) rfl sc_law_limits_right.nd (i_val (o_name (pv 5))) (blkOk_by (N := ["_law_trap", "_law_names", "_law_letter", "_law_some", "_law_title", "_law_far", "_law_deep", "_law_turn", "_law_thing"]) (sc := defScope s_law_limits_right) (by decide +kernel)) (fun _ _ _ _ _ => (g_name (pg_name (i := 8) sc_law_limits_right.nd rfl (Or.inl rfl)))) (fun _ _ _ _ _ => ts_nil) (fun _ _ _ _ _ => (o_ownG g_law_asked hgd (hr.mono (by omega)) (by rfl) pass0 (a_consD (o_name (pv 8)) (a_consD (o_const pe_bl) a_nil))))) a_nil)))))))))))))))))))
/-! ### _law_truths_right -/
def D_law_truths_right : FD := runF 0 6 ((fSeq (fSet 0 (fTup (fCons (fDat (fTup (fCons (fDat (fTup (fCons (fDat (fC (.str "a"))) (fCons (fDat (fC (.int (1)))) fNil)))) fNil))) (fCons (fDat (fTup (fCons (fDat (fTup (fCons (fDat (fC (.str "main"))) (fCons (fDat (fC (.int (1)))) (fCons (fDat (fC (.int (1)))) (fCons (fDat (fTup (fCons (fDat (fTup (fCons (fDat (fC (.str "load"))) (fCons (fDat (fC (.int (0)))) fNil)))) (fCons (fDat (fTup (fCons (fDat (fC (.str "jumpif"))) (fCons (fDat (fC (.int (1)))) fNil)))) (fCons (fDat (fTup (fCons (fDat (fC (.str "push"))) (fCons (fDat (fC (.int (1)))) fNil)))) (fCons (fDat (fTup (fCons (fDat (fC (.str "return"))) fNil))) fNil)))))) fNil)))))) fNil))) fNil))))
  (fSeq (fSet 1 (fIx opIx (fIx opIx (fIx opIx (fName 0) (fC (.int (1)))) (fC (.int (0)))) (fC (.int (3)))))
  (fSeq (fSet 2 (fLst (fCons (fDat (fTup (fCons (fDat (fTup (fCons (fDat (fTup (fCons (fDat (fC (.str "a"))) (fCons (fDat (fC (.bool true))) fNil)))) fNil))) (fCons (fDat (fIx opIx (fName 0) (fC (.int (1))))) fNil)))) (fCons (fDat (fTup (fCons (fDat (fIx opIx (fName 0) (fC (.int (0))))) (fCons (fDat (fTup (fCons (fDat (fTup (fCons (fDat (fC (.str "main"))) (fCons (fDat (fC (.bool true))) (fCons (fDat (fC (.int (1)))) (fCons (fDat (fName 1)) fNil)))))) fNil))) fNil)))) (fCons (fDat (fTup (fCons (fDat (fIx opIx (fName 0) (fC (.int (0))))) (fCons (fDat (fTup (fCons (fDat (fTup (fCons (fDat (fC (.str "main"))) (fCons (fDat (fC (.int (1)))) (fCons (fDat (fC (.bool true))) (fCons (fDat (fName 1)) fNil)))))) fNil))) fNil)))) fNil)))))
  (fSeq (fFor (fEnum (fCons (fDat (fLst (fCons (fDat (fTup (fCons (fDat (fC (.str "load"))) (fCons (fDat (fC (.bool false))) fNil)))) (fCons (fDat (fTup (fCons (fDat (fC (.str "jumpif"))) (fCons (fDat (fC (.bool true))) fNil)))) (fCons (fDat (fTup (fCons (fDat (fC (.str "push"))) (fCons (fDat (fC (.bool true))) fNil)))) fNil))))) fNil)) (gTup' 2 (gCons' (gN' 3) (gCons' (gN' 4) gNil')))
    (fDrop (fMut gAppend (fName 2) (fTup (fCons (fDat (fIx opIx (fName 0) (fC (.int (0))))) (fCons (fDat (fTup (fCons (fDat (fTup (fCons (fDat (fC (.str "main"))) (fCons (fDat (fC (.int (1)))) (fCons (fDat (fC (.int (1)))) (fCons (fDat (fOp2 true opAdd (fOp2 true opAdd (fSl opSl (fName 1) (fpure none) (fbind (fName 3) toI)) (fTup (fCons (fDat (fName 4)) fNil))) (fSl opSl (fName 1) (fbind (fOp2 true opAdd (fName 3) (fC (.int (1)))) toI) (fpure none)))) fNil)))))) fNil))) fNil))))))
  (fRet (fCall false opAll (fCons (fLc (fIter (fName 2)) (gN' 5) (fpure true) (fDat (fOp2 false opEq (fLst (fCons (fDat (fOwn D_is_code (fCons (fDat (fName 0)) fNil))) (fCons (fDat (fOwn D_is_code (fCons (fDat (fName 5)) fNil))) (fCons (fDat (fOwn D_is_code (fCons (fDat (fName 0)) fNil))) fNil)))) (fLst (fCons (fDat (fC (.bool true))) (fCons (fDat (fC (.bool false))) (fCons (fDat (fC (.bool true))) fNil)))))) [5]) fNil))))))))
theorem g_law_truths_right (T : Txt K mg) : Gives P w K mg base CX0 5 "_law_truths_right" (spF D_law_truths_right) := by
  have g_is_code : Gives P w K mg base CX0 4 "is_code" (spF (D_is_code)) := g_is_code T
  have gk_is_code : GivesK P w K mg base CX0 4 "is_code" ["value"] (spF (D_is_code)) := gk_is_code T
  exact givesF T.d_law_truths_right sc_law_truths_right rfl (by decide) (fun _ _ _ _ _ _ us hl => match us, hl with | [], _ => rfl) fun f cdv A outer s H E hr =>
      (b_cons (s_set (i := 0) (o_tup (a_consD (o_tup (a_consD (o_tup (a_consD (o_const pe_str) (a_consD (o_const pe_int) a_nil))) a_nil)) (a_consD (o_tup (a_consD (o_tup (a_consD (o_const pe_str) (a_consD (o_const pe_int) (a_consD (o_const pe_int) (a_consD (o_tup (a_consD (o_tup (a_consD (o_const pe_str) (a_consD (o_const pe_int) a_nil))) (a_consD (o_tup (a_consD (o_const pe_str) (a_consD (o_const pe_int) a_nil))) (a_consD (o_tup (a_consD (o_const pe_str) (a_consD (o_const pe_int) a_nil))) (a_consD (o_tup (a_consD (o_const pe_str) a_nil)) a_nil))))) a_nil))))) a_nil)) a_nil))) (fun _ a => ps_set (i := 0) sc_law_truths_right.nd rfl (Or.inr rfl) a))
      (b_cons (s_set (i := 1) (o_ix opIx_ok (o_ix opIx_ok (o_ix opIx_ok (o_name (pv 0)) (o_const pe_int) (fun _ _ => rfl)) (o_const pe_int) (fun _ _ => rfl)) (o_const pe_int) (fun _ _ => rfl)) (fun _ a => ps_set (i := 1) sc_law_truths_right.nd rfl (Or.inl rfl) a))
      (b_cons (s_set (i := 2) (o_lst (a_consD (o_tup (a_consD (o_tup (a_consD (o_tup (a_consD (o_const pe_str) (a_consD (o_const pe_bl) a_nil))) a_nil)) (a_consD (o_ix opIx_ok (o_name (pv 0)) (o_const pe_int) (fun _ _ => rfl)) a_nil))) (a_consD (o_tup (a_consD (o_ix opIx_ok (o_name (pv 0)) (o_const pe_int) (fun _ _ => rfl)) (a_consD (o_tup (a_consD (o_tup (a_consD (o_const pe_str) (a_consD (o_const pe_bl) (a_consD (o_const pe_int) (a_consD (o_name (pv 1)) a_nil))))) a_nil)) a_nil))) (a_consD (o_tup (a_consD (o_ix opIx_ok (o_name (pv 0)) (o_const pe_int) (fun _ _ => rfl)) (a_consD (o_tup (a_consD (o_tup (a_consD (o_const pe_str) (a_consD (o_const pe_int) (a_consD (o_const pe_bl) (a_consD (o_name (pv 1)) a_nil))))) a_nil)) a_nil))) a_nil)))) (fun _ a => ps_set (i := 2) sc_law_truths_right.nd rfl (Or.inl rfl) a))
      (b_cons (s_for (i_enum (by rfl) T.n_enumerate (a_consD (o_lst (a_consD (o_tup (a_consD (o_const pe_str) (a_consD (o_const pe_bl) a_nil))) (a_consD (o_tup (a_consD (o_const pe_str) (a_consD (o_const pe_bl) a_nil))) (a_consD (o_tup (a_consD (o_const pe_str) (a_consD (o_const pe_bl) a_nil))) a_nil)))) a_nil)) (g_tup (g_cons (g_name (pg_name (i := 3) sc_law_truths_right.nd rfl (Or.inl rfl))) (g_cons (g_name (pg_name (i := 4) sc_law_truths_right.nd rfl (Or.inl rfl))) g_nil)) (fun _ a => pg_tup (by rfl) a))
    (b_one (s_expr (o_append (o_name (pv 2)) (o_tup (a_consD (o_ix opIx_ok (o_name (pv 0)) (o_const pe_int) (fun _ _ => rfl)) (a_consD (o_tup (a_consD (o_tup (a_consD (o_const pe_str) (a_consD (o_const pe_int) (a_consD (o_const pe_int) (a_consD (o_op2 opAdd_ok (o_op2 opAdd_ok (o_slice opSl_ok (o_name (pv 1)) p_none (p_some (o_name (pv 3)))) (o_tup (a_consD (o_name (pv 4)) a_nil))) (o_slice opSl_ok (o_name (pv 1)) (p_some (o_op2 opAdd_ok (o_name (pv 3)) (o_const pe_int))) p_none)) a_nil))))) a_nil)) a_nil))) (fun _ _ a b => pe_bm PySem.F.plainAttrs_list PySem.F.slot_list_append PySem.F.type_list_append mt_append a (pa_cons b pa_nil))))) (fun _ _ _ a b c => ps_for PassesOwn.never rfl a b c))
      (b_one (s_ret (o_callB (s := false) (opAll_ok rfl) (by rfl) T.n_all (by decide +kernel) (a_cons (o_lc (own := [("_law_thing", 5)]) rfl sc_law_truths_right.nd (i_val (o_name (pv 2))) (blkOk_by (N := ["_law_good", "_law_rows", "_law_some", "_law_k", "_law_odd", "_law_thing"]) (sc := defScope s_law_truths_right) (by decide +kernel)) (fun _ _ _ _ _ => (g_name (pg_name (i := 5) sc_law_truths_right.nd rfl (Or.inl rfl)))) (fun _ _ _ _ _ => ts_nil) (fun _ _ _ _ _ => (o_cmp (opEq_ok (units64 hr)) (o_lst (a_consD (o_own g_is_code (hr.mono (by omega)) (by rfl) pass0 (a_consD (o_name (pv 0)) a_nil)) (a_consD (o_own g_is_code (hr.mono (by omega)) (by rfl) pass0 (a_consD (o_name (pv 5)) a_nil)) (a_consD (o_own g_is_code (hr.mono (by omega)) (by rfl) pass0 (a_consD (o_name (pv 0)) a_nil)) a_nil)))) (o_lst (a_consD (o_const pe_bl) (a_consD (o_const pe_bl) (a_consD (o_const pe_bl) a_nil)))) (nomark _)))) a_nil))))))))
end
end Cb

end

section
set_option maxRecDepth 100000
set_option maxHeartbeats 4000000
set_option autoImplicit false
namespace Cb
open PySem PySem.Spec PyProof.Rows L2
def seqs : List FB → FB → FB
  | [], R => R
  | f :: l, R => fSeq f (seqs l R)
def lsts : List FB := [(fAsg (gTup' 2 (gCons' (gN' 0) (gCons' (gN' 1) gNil'))) (fTup (fCons (fDat (fTup (fCons (fDat (fTup (fCons (fDat (fC (.str "trap"))) fNil))) fNil))) (fCons (fDat (fLc (fIter (fC (.str "abcdefghijklm"))) (gN' 2) (fpure true) (fDat (fOp2 true opAdd (fC (.str "f")) (fName 2))) [2])) fNil)))),
  (fSet 3 (fLst (fCons (fDat (fTup (fCons (fDat (fTup fNil)) (fCons (fDat (fTup (fCons (fDat (fTup (fCons (fDat (fC (.str "main"))) (fCons (fDat (fC (.int (6)))) (fCons (fDat (fC (.int (6)))) (fCons (fDat (fName 0)) fNil)))))) fNil))) fNil)))) (fCons (fDat (fTup (fCons (fDat (fTup fNil)) (fCons (fDat (fTup (fCons (fDat (fTup (fCons (fDat (fC (.str "main"))) (fCons (fDat (fC (.int (0)))) (fCons (fDat (fC (.int (200)))) (fCons (fDat (fName 0)) fNil)))))) fNil))) fNil)))) (fCons (fDat (fTup (fCons (fDat (fTup fNil)) (fCons (fDat (fTup (fCons (fDat (fTup (fCons (fDat (fC (.str "main"))) (fCons (fDat (fC (.int (0)))) (fCons (fDat (fC (.int (0)))) (fCons (fDat (fOp2 true opMulTB (fName 0) (fC (.int (10000))))) fNil)))))) fNil))) fNil)))) fNil))))),
  (fSet 3 (fOp2 true opAdd (fName 3) (fLst (fCons (fDat (fTup (fCons (fDat (fTup fNil)) (fCons (fDat (fCall true opTuple (fCons (fDat (fLc (fIter (fSl opSl (fName 1) (fpure none) (fbind (fC (.int (12))) toI))) (gN' 4) (fpure true) (fDat (fTup (fCons (fDat (fName 4)) (fCons (fDat (fC (.int (0)))) (fCons (fDat (fC (.int (0)))) (fCons (fDat (fName 0)) fNil)))))) [4])) fNil))) fNil)))) (fCons (fDat (fTup (fCons (fDat (fTup fNil)) (fCons (fDat (fTup (fCons (fDat (fTup (fCons (fDat (fOp2 true opMulS (fC (.str "a")) (fC (.int (12))))) (fCons (fDat (fC (.int (0)))) (fCons (fDat (fC (.int (0)))) (fCons (fDat (fName 0)) fNil)))))) fNil))) fNil)))) fNil))))),
  (fDrop (fMut gAppend (fName 3) (fTup (fCons (fDat (fCall true opTuple (fCons (fDat (fLc (fIter (fSl opSl (fName 1) (fpure none) (fbind (fC (.int (8))) toI))) (gN' 4) (fpure true) (fDat (fTup (fCons (fDat (fName 4)) (fCons (fDat (fC (.int (256)))) fNil)))) [4])) fNil))) (fCons (fDat (fTup (fCons (fDat (fTup (fCons (fDat (fC (.str "fa"))) (fCons (fDat (fC (.int (0)))) (fCons (fDat (fC (.int (0)))) (fCons (fDat (fName 0)) fNil)))))) fNil))) fNil))))),
  (fDrop (fMut gAppend (fName 3) (fTup (fCons (fDat (fTup fNil)) (fCons (fDat (fTup (fCons (fDat (fTup (fCons (fDat (fC (.str "array1"))) (fCons (fDat (fC (.int (0)))) (fCons (fDat (fC (.int (0)))) (fCons (fDat (fTup (fCons (fDat (fTup (fCons (fDat (fC (.str "add"))) fNil))) fNil))) fNil)))))) fNil))) fNil))))),
  (fSet 5 (fLst (fCons (fDat (fTup (fCons (fDat (fTup fNil)) (fCons (fDat (fTup (fCons (fDat (fTup (fCons (fDat (fC (.str "main"))) (fCons (fDat (fC (.int (7)))) (fCons (fDat (fC (.int (7)))) (fCons (fDat (fName 0)) fNil)))))) fNil))) fNil)))) (fCons (fDat (fTup (fCons (fDat (fTup fNil)) (fCons (fDat (fTup (fCons (fDat (fTup (fCons (fDat (fC (.str "main"))) (fCons (fDat (fC (.int (0)))) (fCons (fDat (fC (.int (201)))) (fCons (fDat (fName 0)) fNil)))))) fNil))) fNil)))) (fCons (fDat (fTup (fCons (fDat (fTup fNil)) (fCons (fDat (fTup (fCons (fDat (fTup (fCons (fDat (fC (.str "main"))) (fCons (fDat (fC (.int (0)))) (fCons (fDat (fC (.int (0)))) (fCons (fDat (fOp2 true opMulTB (fName 0) (fC (.int (10001))))) fNil)))))) fNil))) fNil)))) fNil))))),
  (fSet 5 (fOp2 true opAdd (fName 5) (fLst (fCons (fDat (fTup (fCons (fDat (fTup fNil)) (fCons (fDat (fCall true opTuple (fCons (fDat (fLc (fIter (fName 1)) (gN' 4) (fpure true) (fDat (fTup (fCons (fDat (fName 4)) (fCons (fDat (fC (.int (0)))) (fCons (fDat (fC (.int (0)))) (fCons (fDat (fName 0)) fNil)))))) [4])) fNil))) fNil)))) (fCons (fDat (fTup (fCons (fDat (fTup fNil)) (fCons (fDat (fTup (fCons (fDat (fTup (fCons (fDat (fOp2 true opMulS (fC (.str "a")) (fC (.int (13))))) (fCons (fDat (fC (.int (0)))) (fCons (fDat (fC (.int (0)))) (fCons (fDat (fName 0)) fNil)))))) fNil))) fNil)))) (fCons (fDat (fTup (fCons (fDat (fTup fNil)) (fCons (fDat (fTup fNil)) fNil)))) fNil)))))),
  (fDrop (fMut gAppend (fName 5) (fTup (fCons (fDat (fCall true opTuple (fCons (fDat (fLc (fIter (fSl opSl (fName 1) (fpure none) (fbind (fC (.int (9))) toI))) (gN' 4) (fpure true) (fDat (fTup (fCons (fDat (fName 4)) (fCons (fDat (fC (.int (1)))) fNil)))) [4])) fNil))) (fCons (fDat (fTup (fCons (fDat (fTup (fCons (fDat (fC (.str "main"))) (fCons (fDat (fC (.int (0)))) (fCons (fDat (fC (.int (0)))) (fCons (fDat (fName 0)) fNil)))))) fNil))) fNil))))),
  (fSet 5 (fOp2 true opAdd (fName 5) (fLst (fCons (fDat (fTup (fCons (fDat (fTup (fCons (fDat (fTup (fCons (fDat (fC (.str "a"))) (fCons (fDat (fC (.int (0)))) fNil)))) fNil))) (fCons (fDat (fTup (fCons (fDat (fTup (fCons (fDat (fC (.str "main"))) (fCons (fDat (fC (.int (0)))) (fCons (fDat (fC (.int (0)))) (fCons (fDat (fName 0)) fNil)))))) fNil))) fNil)))) (fCons (fDat (fTup (fCons (fDat (fTup (fCons (fDat (fTup (fCons (fDat (fC (.str "a"))) (fCons (fDat (fC (.int (257)))) fNil)))) fNil))) (fCons (fDat (fTup (fCons (fDat (fTup (fCons (fDat (fC (.str "main"))) (fCons (fDat (fC (.int (0)))) (fCons (fDat (fC (.int (0)))) (fCons (fDat (fName 0)) fNil)))))) fNil))) fNil)))) fNil))))),
  (fDrop (fMut gAppend (fName 5) (fTup (fCons (fDat (fTup fNil)) (fCons (fDat (fTup (fCons (fDat (fTup (fCons (fDat (fC (.str "main"))) (fCons (fDat (fC (.int (2)))) (fCons (fDat (fC (.int (1)))) (fCons (fDat (fName 0)) fNil)))))) fNil))) fNil))))),
  (fSet 6 (fTup fNil)),
  (fFor (fbind (fCons (fC (.int (290))) fNil) fun rs => if rs.length = 1 then fRange (fpure rs) else fun _ => none) (gN' 7)
    (fSet 6 (fTup (fCons (fDat (fName 6)) fNil)))),
  (fSet 5 (fOp2 true opAdd (fName 5) (fLst (fCons (fDat (fName 6)) (fCons (fDat (fTup (fCons (fDat (fName 6)) (fCons (fDat (fName 6)) fNil)))) (fCons (fDat (fTup (fCons (fDat (fTup fNil)) (fCons (fDat (fTup (fCons (fDat (fTup (fCons (fDat (fC (.str "main"))) (fCons (fDat (fC (.int (0)))) (fCons (fDat (fC (.int (0)))) (fCons (fDat (fTup (fCons (fDat (fName 6)) fNil))) fNil)))))) fNil))) fNil)))) (fCons (fDat (fTup (fCons (fDat (fTup fNil)) (fCons (fDat (fTup (fCons (fDat (fTup (fCons (fDat (fC (.str "main"))) (fCons (fDat (fC (.int (0)))) (fCons (fDat (fC (.int (0)))) (fCons (fDat (fTup (fCons (fDat (fTup (fCons (fDat (fC (.str "push"))) (fCons (fDat (fName 6)) fNil)))) fNil))) fNil)))))) fNil))) fNil)))) fNil)))))))]
def lret : FB := (fRet (fAndV (fCall false opAll (fCons (fLc (fIter (fName 3)) (gN' 8) (fpure true) (fDat (fOwn D_law_asked (fCons (fDat (fName 8)) (fCons (fDat (fC (.bool true))) fNil)))) [8]) fNil)) (fCall false opAll (fCons (fLc (fIter (fName 5)) (gN' 8) (fpure true) (fDat (fOwn D_law_asked (fCons (fDat (fName 8)) (fCons (fDat (fC (.bool false))) fNil)))) [8]) fNil))))
theorem lim_seqs : D_law_limits_right = runF 0 9 (seqs lsts lret) := rfl
end Cb

end

section
set_option maxRecDepth 100000
set_option maxHeartbeats 4000000
set_option autoImplicit false
namespace Cb
open PySem PySem.Spec PyProof.Rows L2
/-! Pf, part P: functions of data run symbolically: what a function gives, told by what is asked of it. -/
def WO {α : Type} (F : FM α) (ρ : List SV) (Q : α → List SV → Prop) : Prop := ∃ a ρ', F ρ = some (a, ρ') ∧ Q a ρ'
structure EB where
  nx : List SV → Prop := fun _ => False
  rt : RD → List SV → Prop := fun _ _ => False
  bk : List SV → Prop := fun _ => False
  ct : List SV → Prop := fun _ => False
def EB.at (D : EB) : Out → Prop
  | .nx ρ => D.nx ρ
  | .rt r ρ => D.rt r ρ
  | .bk ρ => D.bk ρ
  | .ct ρ => D.ct ρ
def WB (F : FB) (ρ : List SV) (D : EB) : Prop := ∃ o, F ρ = some o ∧ D.at o
/-- R behind a block -/
abbrev EB.seq (D : EB) (R : FB) : EB where
  nx := fun ρ1 => WB R ρ1 D
  rt := D.rt
  bk := D.bk
  ct := D.ct
/-- a loop's turn, J behind it -/
abbrev EB.loop (D : EB) (J : List SV → Prop) : EB where
  nx := J
  ct := J
  bk := D.nx
  rt := D.rt
/-- the end of a def -/
abbrev EB.fin (as : List AV) (Q : RD → List (List PyData) → Prop) : EB where
  nx := fun ρ => ∃ os, outsAt ρ as 0 = some os ∧ Q (.dat .none) os
  rt := fun r ρ => ∃ os, outsAt ρ as 0 = some os ∧ Q r os
/-- (a second way in, that nobody takes, keeps angle brackets out) -/
inductive WD (D : FD) (as : List AV) (Q : RD → List (List PyData) → Prop) : Prop
  | mk (r : RD) (os : List (List PyData)) (e : D as = some (r, os)) (q : Q r os)
  | no (h : False)
theorem WD.ex {D : FD} {as : List AV} {Q : RD → List (List PyData) → Prop} (h : WD D as Q) : ∃ r os, D as = some (r, os) ∧ Q r os := by
  cases h with
  | mk r os e q => exact ⟨r, os, e, q⟩
  | no h => exact h.elim
/-- the slots, worked out -/
def Nrm (a b : List SV) : Prop := a = b
theorem nrm_id {a : List SV} : Nrm a a := rfl
section
variable {α β : Type} {F G F3 : FM RV} {A : FM (List RV)} {B B2 : FM Bool} {P R : FB} {ρ : List SV} {D : EB} {Q : RV → List SV → Prop} {QA : List RV → List SV → Prop} {QB : Bool → List SV → Prop}
theorem WO.mono {F : FM α} {Q Q' : α → List SV → Prop} (h : WO F ρ Q) (k : ∀ a ρ', Q a ρ' → Q' a ρ') : WO F ρ Q' := by
  obtain ⟨a, ρ', e, q⟩ := h
  exact ⟨a, ρ', e, k a ρ' q⟩
theorem wo_bind {F : FM α} {G : α → FM β} {Q : β → List SV → Prop} (h : WO F ρ fun a ρ1 => WO (G a) ρ1 Q) : WO (fbind F G) ρ Q := by
  obtain ⟨a, ρ1, e, b, ρ2, e2, q⟩ := h
  exact ⟨b, ρ2, by rw [fbind_eq e]; exact e2, q⟩
theorem wo_pure {a : α} {Q : α → List SV → Prop} (h : Q a ρ) : WO (fpure a) ρ Q := ⟨a, ρ, rfl, h⟩
/-! expressions -/
theorem wo_name {i : Nat} {r : RV} (h : fName i ρ = some (r, ρ)) (q : Q r ρ) : WO (fName i) ρ Q := ⟨r, ρ, h, q⟩
theorem wo_c {x : PyData} (q : Q (.dat x) ρ) : WO (fC x) ρ Q := ⟨_, _, rfl, q⟩
theorem wo_cst {ds : List PyData} (q : Q (.cst ds) ρ) : WO (fCst ds) ρ Q := ⟨_, _, rfl, q⟩
theorem wo_nil (q : QA [] ρ) : WO fNil ρ QA := ⟨_, _, rfl, q⟩
theorem wo_cons (h : WO F ρ fun x ρ1 => WO A ρ1 fun xs ρ2 => QA (x :: xs) ρ2) : WO (fCons F A) ρ QA := wo_bind (h.mono fun x ρ1 h => wo_bind (h.mono fun xs ρ2 h => wo_pure h))
theorem wo_dat (h : WO F ρ fun r ρ1 => WO (toDat r) ρ1 fun x ρ2 => Q (.dat x) ρ2) : WO (fDat F) ρ Q := wo_bind (h.mono fun r ρ1 h => wo_bind (h.mono fun x ρ2 h => wo_pure h))
theorem wo_toDat {x : PyData} {Q : PyData → List SV → Prop} (q : Q x ρ) : WO (toDat (.dat x)) ρ Q := ⟨_, _, rfl, q⟩
theorem wo_toDatN {ds : List PyData} {Q : PyData → List SV → Prop} (q : Q (.list ds) ρ) : WO (toDat (.new ds)) ρ Q := ⟨_, _, rfl, q⟩
theorem wo_toDatS {i : Nat} {ds : List PyData} {ρ' : List SV} {Q : PyData → List SV → Prop} (h : ρ[i]? = some (.own ds)) (n : Nrm (ρ.set i (.d (.list ds))) ρ') (q : Q (.list ds) ρ') : WO (toDat (.slot i)) ρ Q := by
  refine ⟨.list ds, ρ', ?_, q⟩
  have n : ρ.set i (.d (.list ds)) = ρ' := n
  unfold toDat
  dsimp only
  rw [h]
  dsimp only
  rw [n]
theorem wo_tup {rs : List RV → Prop} (h : WO A ρ fun rs ρ1 => ∃ ds, dats rs = some ds ∧ ds.length ≤ 4000000 ∧ Q (.dat (.tuple ds)) ρ1) : WO (fTup A) ρ Q := wo_bind (h.mono fun rs ρ1 ⟨ds, e, l, q⟩ => ⟨_, ρ1, by
  rw [e]
  exact if_pos l, q⟩)
theorem wo_lst (h : WO A ρ fun rs ρ1 => ∃ ds, dats rs = some ds ∧ ds.length ≤ 4000000 ∧ Q (.new ds) ρ1) : WO (fLst A) ρ Q := wo_bind (h.mono fun rs ρ1 ⟨ds, e, l, q⟩ => ⟨_, ρ1, by
  rw [e]
  exact if_pos l, q⟩)
theorem wo_op2 {s : Bool} {g : PyData → PyData → Option PyData} (h : WO F ρ fun x ρ1 => WO G ρ1 fun y ρ2 => ∃ dx dy z, view s ρ2 x = some dx ∧ view s ρ2 y = some dy ∧ g dx dy = some z ∧ Q (resRV z) ρ2) : WO (fOp2 s g F G) ρ Q :=
  wo_bind (h.mono fun x ρ1 h => wo_bind (h.mono fun y ρ2 ⟨dx, dy, z, e1, e2, e3, q⟩ => ⟨_, ρ2, by dsimp only; rw [e1, Option.bind_some, e2, Option.bind_some, e3]; rfl, q⟩))
theorem wo_ix {g : PyData → PyData → Option PyData} (h : WO F ρ fun x ρ1 => WO G ρ1 fun y ρ2 => ∃ dx dy z, view false ρ2 x = some dx ∧ view false ρ2 y = some dy ∧ g dx dy = some z ∧ Q (.dat z) ρ2) : WO (fIx g F G) ρ Q :=
  wo_bind (h.mono fun x ρ1 h => wo_bind (h.mono fun y ρ2 ⟨dx, dy, z, e1, e2, e3, q⟩ => ⟨_, ρ2, by dsimp only; rw [e1, Option.bind_some, e2, Option.bind_some, e3]; rfl, q⟩))
theorem wo_call {s : Bool} {g : List PyData → Option PyData} (h : WO A ρ fun rs ρ1 => ∃ ds z, views s ρ1 rs = some ds ∧ g ds = some z ∧ Q (resRV z) ρ1) : WO (fCall s g A) ρ Q :=
  wo_bind (h.mono fun x ρ1 ⟨dx, z, e1, e3, q⟩ => ⟨_, ρ1, by dsimp only; rw [e1, Option.bind_some, e3]; rfl, q⟩)
theorem wo_isi {f : PyData → Bool} (h : WO F ρ fun x ρ1 => ∃ dx, view false ρ1 x = some dx ∧ Q (.dat (.bool (f dx))) ρ1) : WO (fIsi f F) ρ Q :=
  wo_bind (h.mono fun x ρ1 ⟨dx, e1, q⟩ => ⟨_, ρ1, by dsimp only; rw [e1]; rfl, q⟩)
theorem wo_sl {g : PyData → Option Int → Option Int → Option PyData} {L U : FM (Option Int)} (h : WO F ρ fun x ρ1 => WO L ρ1 fun lo ρ2 => WO U ρ2 fun hi ρ3 => ∃ dx z, view true ρ3 x = some dx ∧ g dx lo hi = some z ∧ Q (resRV z) ρ3) : WO (fSl g F L U) ρ Q :=
  wo_bind (h.mono fun x ρ1 h => wo_bind (h.mono fun y ρ2 h => wo_bind (h.mono fun u ρ3 ⟨dx, z, e1, e3, q⟩ => ⟨_, ρ3, by dsimp only; rw [e1, Option.bind_some, e3]; rfl, q⟩)))
theorem wo_toI {i : Int} {Q : Option Int → List SV → Prop} (q : Q (some i) ρ) : WO (toI (.dat (.int i))) ρ Q := ⟨_, _, rfl, q⟩
theorem wo_own {Dc : FD} (h : WO A ρ fun rs ρ1 => ∃ as, toArgs ρ1 rs = some as ∧ (ioS ρ1 rs).Nodup ∧ WD Dc as fun r os => ∃ ρ', setOuts ρ1 (ioS ρ1 rs) os = some ρ' ∧ Q (rdRV r) ρ') : WO (fOwn Dc A) ρ Q :=
  wo_bind (h.mono fun rs ρ1 ⟨as, e1, n, w⟩ => by
    obtain ⟨r, os, e2, ρ', e3, q⟩ := w.ex
    exact ⟨_, ρ', by
      dsimp only
      rw [e1]
      dsimp only
      rw [e2]
      dsimp only
      rw [if_pos n, e3]
      rfl, q⟩)
theorem wo_rev (h : WO F ρ fun x ρ1 => ∃ ds, view false ρ1 x = some (.tuple ds) ∧ Q (.dat (.tuple ds.reverse)) ρ1) : WO (fRev F) ρ Q :=
  wo_bind (h.mono fun x ρ1 ⟨ds, e1, q⟩ => ⟨_, ρ1, by dsimp only; rw [e1]; rfl, q⟩)
/-! truths as values -/
theorem wo_andV (h : WO F ρ fun r ρ1 => ∃ b, r = .dat (.bool b) ∧ (b = true → WO G ρ1 Q) ∧ (b = false → Q (.dat (.bool false)) ρ1)) : WO (fAndV F G) ρ Q :=
  wo_bind (h.mono fun r ρ1 ⟨b, e, h1, h2⟩ => by
    subst e
    refine wo_bind ⟨b, ρ1, rfl, ?_⟩
    cases b with
    | true => exact h1 rfl
    | false => exact ⟨_, _, rfl, h2 rfl⟩)
theorem wo_orV (h : WO F ρ fun r ρ1 => ∃ b, r = .dat (.bool b) ∧ (b = false → WO G ρ1 Q) ∧ (b = true → Q (.dat (.bool true)) ρ1)) : WO (fOrV F G) ρ Q :=
  wo_bind (h.mono fun r ρ1 ⟨b, e, h1, h2⟩ => by
    subst e
    refine wo_bind ⟨b, ρ1, rfl, ?_⟩
    cases b with
    | false => exact h1 rfl
    | true => exact ⟨_, _, rfl, h2 rfl⟩)
theorem wo_notV (h : WO F ρ fun r ρ1 => ∃ b, r = .dat (.bool b) ∧ Q (.dat (.bool (!b))) ρ1) : WO (fNotV F) ρ Q :=
  wo_bind (h.mono fun r ρ1 ⟨b, e, h1⟩ => by
    subst e
    exact wo_bind ⟨b, ρ1, rfl, ⟨_, _, rfl, h1⟩⟩)
theorem wo_ofB (h : WO B ρ fun b ρ1 => Q (.dat (.bool b)) ρ1) : WO (fOfB B) ρ Q := wo_bind (h.mono fun b ρ1 q => ⟨_, _, rfl, q⟩)
theorem wo_if {F G : FM α} {Q : α → List SV → Prop} (h : WO B ρ fun b ρ1 => (b = true → WO F ρ1 Q) ∧ (b = false → WO G ρ1 Q)) : WO (fIf B F G) ρ Q := wo_bind (h.mono fun b ρ1 ⟨h1, h2⟩ => by
  cases b with
  | true => exact h1 rfl
  | false => exact h2 rfl)
/-! tests -/
theorem wt_tru (h : WO F ρ fun x ρ1 => ∃ dx b, view false ρ1 x = some dx ∧ truthD dx = some b ∧ QB b ρ1) : WO (fTru F) ρ QB :=
  wo_bind (h.mono fun x ρ1 ⟨dx, b, e1, e2, q⟩ => ⟨_, ρ1, by dsimp only; rw [e1, Option.bind_some, e2]; rfl, q⟩)
theorem wt_cmp {g : PyData → PyData → Option PyData} (h : WO F ρ fun x ρ1 => WO G ρ1 fun y ρ2 => ∃ dx dy b, view false ρ2 x = some dx ∧ view false ρ2 y = some dy ∧ g dx dy = some (.bool b) ∧ QB b ρ2) : WO (fCmp g F G) ρ QB :=
  wo_bind (h.mono fun x ρ1 h => wo_bind (h.mono fun y ρ2 ⟨dx, dy, b, e1, e2, e3, q⟩ => ⟨_, ρ2, by dsimp only; rw [e1, Option.bind_some, e2, Option.bind_some, e3]; rfl, q⟩))
theorem wt_chain {g g' : PyData → PyData → Option PyData} (h : WO F ρ fun x ρ1 => WO G ρ1 fun y ρ2 => ∃ dx dy b, view false ρ2 x = some dx ∧ view false ρ2 y = some dy ∧ g dx dy = some (.bool b) ∧
    (b = false → QB false ρ2) ∧ (b = true → WO F3 ρ2 fun z ρ3 => ∃ dy dz b', view false ρ3 y = some dy ∧ view false ρ3 z = some dz ∧ g' dy dz = some (.bool b') ∧ QB b' ρ3)) : WO (fChain g g' F G F3) ρ QB :=
  wo_bind (h.mono fun x ρ1 h => wo_bind (h.mono fun y ρ2 ⟨dx, dy, b, e1, e2, e3, q0, q1⟩ => by
    cases b with
    | false => exact ⟨false, ρ2, by dsimp only; rw [e1, Option.bind_some, e2, Option.bind_some, e3]; rfl, q0 rfl⟩
    | true =>
      obtain ⟨b, ρ3, e, q⟩ := wo_bind (F := F3) (G := fun z => fun ρ => (view false ρ y).bind fun dy => (view false ρ z).bind fun dz => ((g' dy dz).bind boolD).map fun b => (b, ρ)) (Q := QB) ((q1 rfl).mono fun z ρ3 ⟨dy, dz, b', e1, e2, e3, q⟩ => ⟨_, ρ3, by dsimp only; rw [e1, Option.bind_some, e2, Option.bind_some, e3]; rfl, q⟩)
      exact ⟨b, ρ3, by dsimp only; rw [e1, Option.bind_some, e2, Option.bind_some, e3]; exact e, q⟩))
theorem wt_and (h : WO B ρ fun b ρ1 => (b = true → WO B2 ρ1 QB) ∧ (b = false → QB false ρ1)) : WO (fAnd B B2) ρ QB := wo_bind (h.mono fun b ρ1 ⟨h1, h2⟩ => by
  cases b with
  | true => exact h1 rfl
  | false => exact ⟨_, _, rfl, h2 rfl⟩)
theorem wt_or (h : WO B ρ fun b ρ1 => (b = false → WO B2 ρ1 QB) ∧ (b = true → QB true ρ1)) : WO (fOr B B2) ρ QB := wo_bind (h.mono fun b ρ1 ⟨h1, h2⟩ => by
  cases b with
  | false => exact h1 rfl
  | true => exact ⟨_, _, rfl, h2 rfl⟩)
theorem wt_not (h : WO B ρ fun b ρ1 => QB (!b) ρ1) : WO (fNot B) ρ QB := wo_bind (h.mono fun b ρ1 q => ⟨_, _, rfl, q⟩)
/-! statements -/
theorem wb_skip (h : D.nx ρ) : WB fSkip ρ D := ⟨_, rfl, h⟩
theorem wb_seq (h : WB P ρ (EB.seq D R)) : WB (fSeq P R) ρ D := by
  obtain ⟨o, e, q⟩ := h
  cases o with
  | nx ρ1 =>
    obtain ⟨o2, e2, q2⟩ := q
    exact ⟨o2, by unfold fSeq; rw [e]; exact e2, q2⟩
  | rt r ρ1 => exact ⟨.rt r ρ1, by unfold fSeq; rw [e], q⟩
  | bk ρ1 => exact ⟨.bk ρ1, by unfold fSeq; rw [e], q⟩
  | ct ρ1 => exact ⟨.ct ρ1, by unfold fSeq; rw [e], q⟩
theorem wb_if (h : WO B ρ fun b ρ1 => (b = true → WB P ρ1 D) ∧ (b = false → WB R ρ1 D)) : WB (fIfS B P R) ρ D := by
  obtain ⟨b, ρ1, e, h1, h2⟩ := h
  cases b with
  | true =>
    obtain ⟨o, e2, q⟩ := h1 rfl
    exact ⟨o, by unfold fIfS; rw [e]; exact e2, q⟩
  | false =>
    obtain ⟨o, e2, q⟩ := h2 rfl
    exact ⟨o, by unfold fIfS; rw [e]; exact e2, q⟩
theorem wb_ret (h : WO F ρ fun r ρ1 => ∃ d ρ2, toRD r ρ1 = some (d, ρ2) ∧ D.rt d ρ2) : WB (fRet F) ρ D := by
  obtain ⟨r, ρ1, e, d, ρ2, e2, q⟩ := h
  exact ⟨.rt d ρ2, by
    unfold fRet
    rw [fbind_eq e, e2], q⟩
theorem wb_drop (h : WO F ρ fun _ ρ1 => D.nx ρ1) : WB (fDrop F) ρ D := by
  obtain ⟨r, ρ1, e, q⟩ := h
  exact ⟨.nx ρ1, by
    unfold fDrop
    rw [e], q⟩
theorem wb_set {i : Nat} (h : WO F ρ fun r ρ1 => ∃ ρ2, putRV i r ρ1 = some ρ2 ∧ ∃ ρ3, Nrm ρ2 ρ3 ∧ D.nx ρ3) : WB (fSet i F) ρ D := by
  obtain ⟨r, ρ1, e, ρ2, e2, ρ3, e3, q⟩ := h
  have e3 : ρ2 = ρ3 := e3
  subst e3
  exact ⟨.nx ρ2, by
    unfold fSet
    rw [e]
    dsimp only
    rw [e2]
    rfl, q⟩
theorem wb_asg {Gt : FG} (h : WO F ρ fun r ρ1 => ∃ d ρ2, toIV r ρ1 = some (d, ρ2) ∧ ∃ ρ3, Gt d ρ2 = some ρ3 ∧ ∃ ρ4, Nrm ρ3 ρ4 ∧ D.nx ρ4) : WB (fAsg Gt F) ρ D := by
  obtain ⟨r, ρ1, e, d, ρ2, e2, ρ3, e3, ρ4, e4, q⟩ := h
  have e4 : ρ3 = ρ4 := e4
  subst e4
  exact ⟨.nx ρ3, by
    unfold fAsg
    rw [fbind_eq e, e2]
    dsimp only
    rw [e3]
    rfl, q⟩
end
/-- a def's function is run from its body -/
theorem wd_run {np n : Nat} {B : FB} {as : List AV} {Q : RD → List (List PyData) → Prop} {ρ0 : List SV} (hl : as.length = np) (he : entry n as = ρ0) (h : WB B ρ0 (EB.fin as Q)) : WD (runF np n B) as Q := by
  obtain ⟨o, e, q⟩ := h
  have go : ∀ r os, (match B ρ0 with
      | some (.rt r ρ) => (outsAt ρ as 0).map fun os => (r, os)
      | some (.nx ρ) => (outsAt ρ as 0).map fun os => (.dat .none, os)
      | _ => none) = some (r, os) → runF np n B as = some (r, os) := fun r os z => by
    unfold runF
    rw [if_pos hl, he]
    exact z
  cases o with
  | nx ρ =>
    obtain ⟨os, e1, q⟩ := q
    exact .mk _ _ (go _ _ (by rw [e]; dsimp only; rw [e1]; rfl)) q
  | rt r ρ =>
    obtain ⟨os, e1, q⟩ := q
    exact .mk _ _ (go _ _ (by rw [e]; dsimp only; rw [e1]; rfl)) q
  | bk ρ => cases q
  | ct ρ => cases q
theorem WD.eq {D : FD} {as : List AV} {r : RD} {os : List (List PyData)} (h : WD D as fun r' os' => r' = r ∧ os' = os) : D as = some (r, os) := by
  obtain ⟨r', os', e, rfl, rfl⟩ := h.ex
  exact e
theorem WD.of {D : FD} {as : List AV} {r : RD} {os : List (List PyData)} {Q : RD → List (List PyData) → Prop} (e : D as = some (r, os)) (q : Q r os) : WD D as Q := .mk r os e q
theorem WD.mono {D : FD} {as : List AV} {Q Q' : RD → List (List PyData) → Prop} (h : WD D as Q) (k : ∀ r os, Q r os → Q' r os) : WD D as Q' := by
  obtain ⟨r, os, e, q⟩ := h.ex
  exact .mk r os e (k r os q)
theorem nd0 : ([] : List Nat).Nodup := List.nodup_nil
theorem nd1 {i : Nat} : [i].Nodup := by simp
theorem nrm_eq {a b : List SV} (h : a = b) : Nrm a b := h
theorem wd_run' {np n : Nat} {B : FB} {as : List AV} {Q : RD → List (List PyData) → Prop} {ρ0 ρ1 : List SV} (hl : as.length = np) (he : entry n as = ρ0) (hn : Nrm ρ0 ρ1) (h : WB B ρ1 (EB.fin as Q)) : WD (runF np n B) as Q := wd_run hl (he.trans hn) h
local macro_rules | `(tactic| tb_rel) => `(tactic| fail)
local macro_rules | `(tactic| tb_rel) => `(tactic| refine WD.of (by assumption) ?_)
local macro_rules | `(tactic| tb_rel) => `(tactic| refine WD.mono (by assumption) ?_)
local macro_rules | `(tactic| top_name) => `(tactic| exact nrm_id)
local macro_rules | `(tactic| top_name) => `(tactic| (apply nrm_eq; conv => {lhs; simp only [entry, wipeR, restR, isPar, List.getElem?_cons_zero, List.getElem?_cons_succ, List.getElem?_nil, Bool.false_eq_true, reduceIte, SV.put, toSV, resRV, rdRV, List.set_cons_zero, List.set_cons_succ, List.set_nil, Int.reduceToNat, Int.toNat_one, Int.toNat_zero, List.map_cons, List.map_nil, List.replicate_succ, List.replicate_zero, List.cons_append, List.nil_append, List.length_cons, List.length_nil, Nat.reduceAdd, Nat.reduceSub]}; exact rfl))
local macro_rules | `(tactic| top_name) => `(tactic| (apply nrm_eq; conv => {lhs; simp only [entry, wipeR, restR, isPar, List.getElem?_cons_zero, List.getElem?_cons_succ, List.getElem?_nil, Bool.false_eq_true, reduceIte, SV.put, toSV, resRV, rdRV, List.set_cons_zero, List.set_cons_succ, List.set_nil, Int.reduceToNat, Int.toNat_one, Int.toNat_zero, List.map_cons, List.map_nil, List.replicate_succ, List.replicate_zero, List.cons_append, List.nil_append, List.length_cons, List.length_nil, Nat.reduceAdd, Nat.reduceSub]}; done))
theorem wo_id {α : Type} {F : FM α} {ρ : List SV} {Q : α → List SV → Prop} (h : WO F ρ Q) : WO F ρ Q := h
theorem wb_id {F : FB} {ρ : List SV} {D : EB} (h : WB F ρ D) : WB F ρ D := h
theorem wo_toDatG {ρ : List SV} {r : RV} {x : PyData} {Q : PyData → List SV → Prop} (e : r = .dat x) (q : Q x ρ) : WO (toDat r) ρ Q := by
  subst e
  exact wo_toDat q
theorem wo_toDatNG {ρ : List SV} {r : RV} {ds : List PyData} {Q : PyData → List SV → Prop} (e : r = .new ds) (q : Q (.list ds) ρ) : WO (toDat r) ρ Q := by
  subst e
  exact wo_toDatN q
local macro_rules | `(tactic| k_updF) => `(tactic| with_reducible tb_rel)
local macro_rules | `(tactic| k_updF) => `(tactic| with_reducible refine wb_skip ?_)
local macro_rules | `(tactic| k_updF) => `(tactic| with_reducible refine wb_asg ?_)
local macro_rules | `(tactic| k_updF) => `(tactic| with_reducible refine wb_drop ?_)
local macro_rules | `(tactic| k_updF) => `(tactic| with_reducible refine wb_ret ?_)
local macro_rules | `(tactic| k_updF) => `(tactic| with_reducible refine wb_if ?_)
local macro_rules | `(tactic| k_updF) => `(tactic| with_reducible refine wb_set ?_)
local macro_rules | `(tactic| k_updF) => `(tactic| with_reducible refine wb_seq ?_)
local macro_rules | `(tactic| k_upd) => `(tactic| with_reducible tb_rel)
local macro_rules | `(tactic| k_upd) => `(tactic| with_reducible refine wo_rev ?_)
local macro_rules | `(tactic| k_upd) => `(tactic| with_reducible refine wo_cst ?_)
local macro_rules | `(tactic| k_upd) => `(tactic| with_reducible refine wo_if ?_)
local macro_rules | `(tactic| k_upd) => `(tactic| with_reducible refine wo_ofB ?_)
local macro_rules | `(tactic| k_upd) => `(tactic| with_reducible refine wo_notV ?_)
local macro_rules | `(tactic| k_upd) => `(tactic| with_reducible refine wo_orV ?_)
local macro_rules | `(tactic| k_upd) => `(tactic| with_reducible refine wo_andV ?_)
local macro_rules | `(tactic| k_upd) => `(tactic| with_reducible refine wt_chain ?_)
local macro_rules | `(tactic| k_upd) => `(tactic| with_reducible refine wo_pure ?_)
local macro_rules | `(tactic| k_upd) => `(tactic| with_reducible refine wo_bind ?_)
local macro_rules | `(tactic| k_upd) => `(tactic| with_reducible refine wo_toI ?_)
local macro_rules | `(tactic| k_upd) => `(tactic| with_reducible refine wo_sl ?_)
local macro_rules | `(tactic| k_upd) => `(tactic| with_reducible refine wo_lst ?_)
local macro_rules | `(tactic| k_upd) => `(tactic| with_reducible refine wo_isi ?_)
local macro_rules | `(tactic| k_upd) => `(tactic| with_reducible refine wt_tru ?_)
local macro_rules | `(tactic| k_upd) => `(tactic| with_reducible refine wt_not ?_)
local macro_rules | `(tactic| k_upd) => `(tactic| with_reducible refine wt_and ?_)
local macro_rules | `(tactic| k_upd) => `(tactic| with_reducible refine wt_or ?_)
local macro_rules | `(tactic| k_upd) => `(tactic| with_reducible refine wt_cmp ?_)
local macro_rules | `(tactic| k_upd) => `(tactic| with_reducible refine wo_call ?_)
local macro_rules | `(tactic| k_upd) => `(tactic| with_reducible refine wo_ix ?_)
local macro_rules | `(tactic| k_upd) => `(tactic| with_reducible refine wo_op2 ?_)
local macro_rules | `(tactic| k_upd) => `(tactic| with_reducible refine wo_own ?_)
local macro_rules | `(tactic| k_upd) => `(tactic| with_reducible refine wo_tup (rs := fun _ => True) ?_)
local macro_rules | `(tactic| k_upd) => `(tactic| with_reducible refine wo_toDatNG (by with_unfolding_all exact rfl) ?_)
local macro_rules | `(tactic| k_upd) => `(tactic| with_reducible refine wo_toDatG (by with_unfolding_all exact rfl) ?_)
local macro_rules | `(tactic| k_upd) => `(tactic| with_reducible refine wo_toDatN ?_)
local macro_rules | `(tactic| k_upd) => `(tactic| with_reducible refine wo_toDat ?_)
local macro_rules | `(tactic| k_upd) => `(tactic| with_reducible refine wo_c ?_)
local macro_rules | `(tactic| k_upd) => `(tactic| with_reducible refine wo_dat ?_)
local macro_rules | `(tactic| k_upd) => `(tactic| with_reducible refine wo_nil ?_)
local macro_rules | `(tactic| k_upd) => `(tactic| with_reducible refine wo_name (by with_unfolding_all exact rfl) ?_)
local macro_rules | `(tactic| k_upd) => `(tactic| with_reducible refine wo_cons ?_)
local macro_rules | `(tactic| nest_cls) => `(tactic| ((with_reducible refine wb_id ?_); k_updF))
local macro_rules | `(tactic| nest_cls) => `(tactic| ((with_reducible refine wo_id ?_); k_upd))
section
variable {s : Bool} {ρ : List SV} {x y : RV} {dx dy z : PyData} {b : Bool}
theorem q_op2 {g : PyData → PyData → Option PyData} {Q : PyData → Prop} (h1 : view s ρ x = some dx) (h2 : view s ρ y = some dy) (h3 : g dx dy = some z) (q : Q z) : ∃ dx dy z, view s ρ x = some dx ∧ view s ρ y = some dy ∧ g dx dy = some z ∧ Q z := ⟨_, _, _, h1, h2, h3, q⟩
theorem q_cmp {g : PyData → PyData → Option PyData} {Q : Bool → Prop} (h1 : view s ρ x = some dx) (h2 : view s ρ y = some dy) (h3 : g dx dy = some (.bool b)) (q : Q b) : ∃ dx dy b, view s ρ x = some dx ∧ view s ρ y = some dy ∧ g dx dy = some (.bool b) ∧ Q b := ⟨_, _, _, h1, h2, h3, q⟩
theorem q_op1 {g : PyData → Option PyData} {Q : PyData → Prop} (h1 : view s ρ x = some dx) (h3 : g dx = some z) (q : Q z) : ∃ dx z, view s ρ x = some dx ∧ g dx = some z ∧ Q z := ⟨_, _, h1, h3, q⟩
theorem q_tru {Q : Bool → Prop} (h1 : view s ρ x = some dx) (h3 : truthD dx = some b) (q : Q b) : ∃ dx b, view s ρ x = some dx ∧ truthD dx = some b ∧ Q b := ⟨_, _, h1, h3, q⟩
theorem q_call {rs : List RV} {ds : List PyData} {g : List PyData → Option PyData} {Q : PyData → Prop} (h1 : views s ρ rs = some ds) (h3 : g ds = some z) (q : Q z) : ∃ ds z, views s ρ rs = some ds ∧ g ds = some z ∧ Q z := ⟨_, _, h1, h3, q⟩
theorem q_isi {Q : PyData → Prop} (h1 : view s ρ x = some dx) (q : Q dx) : ∃ dx, view s ρ x = some dx ∧ Q dx := ⟨_, h1, q⟩
theorem q_if {A B : Prop} (h : (b = true → A)) (h2 : b = false → B) : (b = true → A) ∧ (b = false → B) := ⟨h, h2⟩
theorem q_if2 {A B : Prop} (h : (b = false → A)) (h2 : b = true → B) : (b = false → A) ∧ (b = true → B) := ⟨h, h2⟩
theorem q_set {i : Nat} {ρ1 ρ2 ρ3 : List SV} {Q : List SV → Prop} (h1 : putRV i x ρ1 = some ρ2) (h2 : Nrm ρ2 ρ3) (q : Q ρ3) : ∃ ρ2, putRV i x ρ1 = some ρ2 ∧ ∃ ρ3, Nrm ρ2 ρ3 ∧ Q ρ3 := ⟨_, h1, _, h2, q⟩
theorem q_asg {Gt : FG} {d : IV} {ρ1 ρ2 ρ3 ρ4 : List SV} {Q : List SV → Prop} (h1 : toIV x ρ1 = some (d, ρ2)) (h2 : Gt d ρ2 = some ρ3) (h3 : Nrm ρ3 ρ4) (q : Q ρ4) : ∃ d ρ2, toIV x ρ1 = some (d, ρ2) ∧ ∃ ρ3, Gt d ρ2 = some ρ3 ∧ ∃ ρ4, Nrm ρ3 ρ4 ∧ Q ρ4 := ⟨_, _, h1, _, h2, _, h3, q⟩
theorem q_ret {d : RD} {ρ1 ρ2 : List SV} {Q : RD → List SV → Prop} (h1 : toRD x ρ1 = some (d, ρ2)) (q : Q d ρ2) : ∃ d ρ2, toRD x ρ1 = some (d, ρ2) ∧ Q d ρ2 := ⟨_, _, h1, q⟩
theorem q_dats {rs : List RV} {ds : List PyData} {Q : List PyData → Prop} (h1 : dats rs = some ds) (h2 : ds.length ≤ 4000000) (q : Q ds) : ∃ ds, dats rs = some ds ∧ ds.length ≤ 4000000 ∧ Q ds := ⟨_, h1, h2, q⟩
theorem q_end {as : List AV} {i : Nat} {os : List (List PyData)} {Q : List (List PyData) → Prop} (h1 : outsAt ρ as i = some os) (q : Q os) : ∃ os, outsAt ρ as i = some os ∧ Q os := ⟨_, h1, q⟩
theorem q_truth {Q : Bool → Prop} (h1 : x = .dat (.bool b)) (q : Q b) : ∃ b, x = .dat (.bool b) ∧ Q b := ⟨_, h1, q⟩
end
local macro_rules | `(tactic| top_caught0) => `(tactic| (refine ⟨fun h => ?_, fun h => ?_⟩ <;> first | (cases h; done) | skip))
local macro_rules | `(tactic| top_caught0) => `(tactic| refine ⟨_, rfl, ?_⟩)
local macro_rules | `(tactic| top_caught0) => `(tactic| refine ⟨_, _, rfl, ?_⟩)
local macro_rules | `(tactic| top_caught0) => `(tactic| refine ⟨_, rfl, _, by (first | top_name | fail), ?_⟩)
local macro_rules | `(tactic| top_caught0) => `(tactic| (refine ⟨_, rfl, fun h => ?_, fun h => ?_⟩ <;> first | (cases h; done) | skip))
local macro_rules | `(tactic| top_caught0) => `(tactic| refine ⟨_, rfl, nd1, ?_⟩)
local macro_rules | `(tactic| top_caught0) => `(tactic| refine ⟨_, rfl, nd0, ?_⟩)
local macro_rules | `(tactic| top_caught0) => `(tactic| refine ⟨_, rfl, Nat.le_of_ble_eq_true rfl, ?_⟩)
local macro_rules | `(tactic| top_caught0) => `(tactic| refine ⟨_, _, rfl, if_pos (by (first | omega | decide | exact .inl ⟨by omega, by omega⟩ | exact .inr ⟨by omega, by omega⟩ | exact ⟨by omega, by decide⟩ | exact ⟨by omega, by omega⟩ | fail)), ?_⟩)
local macro_rules | `(tactic| top_caught0) => `(tactic| refine ⟨_, _, rfl, rfl, ?_⟩)
local macro_rules | `(tactic| top_caught0) => `(tactic| refine ⟨_, _, rfl, _, rfl, _, by (first | top_name | fail), ?_⟩)
local macro_rules | `(tactic| top_caught0) => `(tactic| refine ⟨_, _, rfl, rfl, _, rfl, _, by (first | top_name | fail), ?_⟩)
local macro_rules | `(tactic| top_caught0) => `(tactic| refine ⟨_, _, _, rfl, rfl, if_pos (by (first | omega | decide | exact .inl ⟨by omega, by omega⟩ | exact .inr ⟨by omega, by omega⟩ | exact ⟨by omega, by decide⟩ | exact ⟨by omega, by omega⟩ | fail)), ?_⟩)
local macro_rules | `(tactic| top_caught0) => `(tactic| refine ⟨_, _, _, rfl, rfl, rfl, ?_⟩)
local macro_rules | `(tactic| top_caught0) => `(tactic| (refine ⟨_, _, _, rfl, rfl, rfl, fun h => ?_, fun h => ?_⟩ <;> first | (cases h; done) | skip))
local macro_rules | `(tactic| top_caught0) => `(tactic| refine ⟨_, _, rfl, (by assumption : _ = _), ?_⟩)
local macro_rules | `(tactic| top_caught0) => `(tactic| refine ⟨_, _, _, rfl, rfl, (by assumption : _ = _), ?_⟩)
local macro_rules | `(tactic| top_caught0) => `(tactic| refine wo_toDatS rfl (by (first | top_name | fail)) ?_)
local macro_rules | `(tactic| top_caught0) => `(tactic| refine wo_name rfl ?_)
local macro_rules | `(tactic| top_caught0) => `(tactic| ((with_reducible refine q_if2 (fun h => ?_) (fun h => ?_)) <;> first | (cases h; done) | skip))
local macro_rules | `(tactic| top_caught0) => `(tactic| ((with_reducible refine q_if (fun h => ?_) (fun h => ?_)) <;> first | (cases h; done) | skip))
local macro_rules | `(tactic| top_caught0) => `(tactic| with_reducible refine q_asg (by with_unfolding_all exact rfl) (by with_unfolding_all exact rfl) (by (first | top_name | fail)) ?_)
local macro_rules | `(tactic| top_caught0) => `(tactic| with_reducible refine q_op1 (by with_unfolding_all exact rfl) (by (first | assumption | (with_unfolding_all exact rfl) | exact if_pos (by (first | omega | decide | exact .inl ⟨by omega, by omega⟩ | exact .inr ⟨by omega, by omega⟩ | exact ⟨by omega, by decide⟩ | exact ⟨by omega, by omega⟩ | fail)) | fail)) ?_)
local macro_rules | `(tactic| top_caught0) => `(tactic| with_reducible refine q_truth (by with_unfolding_all exact rfl) ?_)
local macro_rules | `(tactic| top_caught0) => `(tactic| with_reducible refine q_isi (by with_unfolding_all exact rfl) ?_)
local macro_rules | `(tactic| top_caught0) => `(tactic| with_reducible refine q_end (by with_unfolding_all exact rfl) ?_)
local macro_rules | `(tactic| top_caught0) => `(tactic| with_reducible refine q_ret (by with_unfolding_all exact rfl) ?_)
local macro_rules | `(tactic| top_caught0) => `(tactic| with_reducible refine q_dats (by with_unfolding_all exact rfl) (by exact Nat.le_of_ble_eq_true (by with_unfolding_all exact rfl)) ?_)
local macro_rules | `(tactic| top_caught0) => `(tactic| with_reducible refine q_args (by with_unfolding_all exact rfl) (by first | exact nd0 | exact nd1) ?_)
local macro_rules | `(tactic| top_caught0) => `(tactic| with_reducible refine q_tru (by with_unfolding_all exact rfl) (by (first | assumption | (with_unfolding_all exact rfl) | exact if_pos (by (first | omega | decide | exact .inl ⟨by omega, by omega⟩ | exact .inr ⟨by omega, by omega⟩ | exact ⟨by omega, by decide⟩ | exact ⟨by omega, by omega⟩ | fail)) | fail)) ?_)
local macro_rules | `(tactic| top_caught0) => `(tactic| with_reducible refine q_call (by with_unfolding_all exact rfl) (by (first | assumption | (with_unfolding_all exact rfl) | exact if_pos (by (first | omega | decide | exact .inl ⟨by omega, by omega⟩ | exact .inr ⟨by omega, by omega⟩ | exact ⟨by omega, by decide⟩ | exact ⟨by omega, by omega⟩ | fail)) | fail)) ?_)
local macro_rules | `(tactic| top_caught0) => `(tactic| with_reducible refine q_set (by with_unfolding_all exact rfl) (by (first | top_name | fail)) ?_)
local macro_rules | `(tactic| top_caught0) => `(tactic| with_reducible refine q_op2 (by with_unfolding_all exact rfl) (by with_unfolding_all exact rfl) (by (first | assumption | (with_unfolding_all exact rfl) | exact if_pos (by (first | omega | decide | exact .inl ⟨by omega, by omega⟩ | exact .inr ⟨by omega, by omega⟩ | exact ⟨by omega, by decide⟩ | exact ⟨by omega, by omega⟩ | fail)) | fail)) ?_)
local macro_rules | `(tactic| top_caught0) => `(tactic| with_reducible refine q_cmp (by with_unfolding_all exact rfl) (by with_unfolding_all exact rfl) (by (first | assumption | (with_unfolding_all exact rfl) | exact if_pos (by (first | omega | decide | exact .inl ⟨by omega, by omega⟩ | exact .inr ⟨by omega, by omega⟩ | exact ⟨by omega, by decide⟩ | exact ⟨by omega, by omega⟩ | fail)) | fail)) ?_)
local macro_rules | `(tactic| tb_start) => `(tactic| with_reducible tb_rel)
local macro_rules | `(tactic| tb_start) => `(tactic| top_caught0)
local macro_rules | `(tactic| tb_start) => `(tactic| nest_cls)

/-! Pf, part Q: comprehensions and loops, run by an invariant. -/
section
variable {G : FG} {T : FM Bool} {E E1 E2 : FM RV} {vs : List Nat} {I : FM (List IV)} {B : FB} {ρ : List SV} {D : EB} {Q : RV → List SV → Prop}
/-- one turn of a comprehension -/
def LcStep (G : FG) (T : FM Bool) (E : FM RV) (vs : List Nat) (d : IV) (ρ : List SV) (Y : PyData → List SV → Prop) (N : List SV → Prop) : Prop :=
  ∃ ρ2, G d ρ = some ρ2 ∧ WO T ρ2 fun b ρ3 => (b = true → WO E ρ3 fun r ρ4 => ∃ x, r = .dat x ∧ Y x (wipeR ρ4 vs)) ∧ (b = false → N (wipeR ρ3 vs))
theorem comp_inv {is : List IV} (J : Nat → List PyData → List SV → Prop)
    (hs : ∀ k d acc ρ, is[k]? = some d → J k acc ρ → LcStep G T E vs d ρ (fun x ρ' => J (k + 1) (acc ++ [x]) ρ') (fun ρ' => J (k + 1) acc ρ')) :
    ∀ (n k : Nat) (acc : List PyData) (ρ : List SV), k + n = is.length → J k acc ρ → ∃ out ρE, compF G T E vs (is.drop k) acc ρ = some (out, ρE) ∧ J is.length out ρE
  | 0, k, acc, ρ, hn, hj => by
    have e : is.drop k = [] := List.drop_eq_nil_of_le (by omega)
    rw [e]
    have hk : k = is.length := by omega
    subst hk
    exact ⟨acc, ρ, rfl, hj⟩
  | n + 1, k, acc, ρ, hn, hj => by
    have hk : k < is.length := by omega
    have e : is.drop k = is[k] :: is.drop (k + 1) := List.drop_eq_getElem_cons hk
    obtain ⟨ρ2, e2, b, ρ3, e3, hy, hz⟩ := hs k _ acc ρ (List.getElem?_eq_getElem hk) hj
    rw [e]
    cases b with
    | true =>
      obtain ⟨r, ρ4, e4, x, rfl, hJ⟩ := hy rfl
      obtain ⟨out, ρE, e5, h5⟩ := comp_inv J hs n (k + 1) _ _ (by omega) hJ
      refine ⟨out, ρE, ?_, h5⟩
      unfold compF
      rw [e2]
      dsimp only
      rw [e3]
      dsimp only
      rw [e4]
      exact e5
    | false =>
      obtain ⟨out, ρE, e5, h5⟩ := comp_inv J hs n (k + 1) _ _ (by omega) (hz rfl)
      refine ⟨out, ρE, ?_, h5⟩
      unfold compF
      rw [e2]
      dsimp only
      rw [e3]
      exact e5
/-- a comprehension by an invariant -/
theorem wo_lcI (h : WO I ρ fun is ρ1 => freeOf ρ1 vs = true ∧ is.length ≤ 4000000 ∧ ∃ J : Nat → List PyData → List SV → Prop, J 0 [] (wipeR ρ1 vs) ∧
    (∀ k d acc ρ, is[k]? = some d → J k acc ρ → LcStep G T E vs d ρ (fun x ρ' => J (k + 1) (acc ++ [x]) ρ') (fun ρ' => J (k + 1) acc ρ')) ∧
    ∀ out ρE, J is.length out ρE → Q (.new out) (restR ρ1 (wipeR ρE vs) vs)) : WO (fLc I G T E vs) ρ Q := by
  obtain ⟨is, ρ1, e1, hf, hl, J, h0, hs, hq⟩ := h
  obtain ⟨out, ρE, e2, h2⟩ := comp_inv J hs is.length 0 [] _ (by omega) h0
  rw [List.drop_zero] at e2
  refine ⟨_, _, ?_, hq out ρE h2⟩
  unfold fLc
  rw [e1]
  dsimp only
  rw [if_pos (by rw [hf, decide_eq_true hl]; rfl), e2]
/-- a comprehension that changes nothing: f tells each item's value, or that it is left out -/
theorem wo_lc (h : WO I ρ fun is ρ1 => freeOf ρ1 vs = true ∧ is.length ≤ 4000000 ∧ ∃ (ρw : List SV) (f : IV → Option PyData), Nrm (wipeR ρ1 vs) ρw ∧
    (∀ d ∈ is, LcStep G T E vs d ρw (fun x ρ' => ρ' = ρw ∧ f d = some x) (fun ρ' => ρ' = ρw ∧ f d = none)) ∧
    ∃ ρ2, Nrm (restR ρ1 (wipeR ρw vs) vs) ρ2 ∧ Q (.new (is.filterMap f)) ρ2) : WO (fLc I G T E vs) ρ Q := by
  obtain ⟨is, ρ1, e1, hf, hl, ρw, f, hw, hs, ρ2, hr, hq⟩ := h
  have hw : wipeR ρ1 vs = ρw := hw
  have hr : restR ρ1 (wipeR ρw vs) vs = ρ2 := hr
  refine wo_lcI ⟨is, ρ1, e1, hf, hl, fun k acc ρ => ρ = ρw ∧ acc = (is.take k).filterMap f, ⟨hw, rfl⟩, fun k d acc ρ hk ⟨h1, h2⟩ => ?_, fun out ρE ⟨h1, h2⟩ => ?_⟩
  · subst h1 h2
    have tk : is.take (k + 1) = is.take k ++ [d] := by
      rw [List.take_add_one, hk]
      rfl
    obtain ⟨ρ2, e2, b, ρ3, e3, hy, hz⟩ := hs d (List.mem_of_getElem? hk)
    refine ⟨ρ2, e2, b, ρ3, e3, fun hb => ?_, fun hb => ?_⟩
    · refine (hy hb).mono fun r ρ4 ⟨x, er, e5, e6⟩ => ⟨x, er, e5, ?_⟩
      rw [tk, List.filterMap_append]
      simp [e6]
    · obtain ⟨e5, e6⟩ := hz hb
      refine ⟨e5, ?_⟩
      rw [tk, List.filterMap_append]
      simp [e6]
  · subst h1
    rw [hr]
    rw [h2, List.take_length]
    exact hq
theorem toBools_map {α : Type} {g : α → Bool} : ∀ l : List α, toBools (l.map fun d => PyData.bool (g d)) = some (l.map g)
  | [] => rfl
  | d :: l => by
    have ih := toBools_map (g := g) l
    rw [List.map_cons, List.map_cons]
    unfold toBools
    rw [ih]
    rfl
theorem filterMap_some {α β : Type} {f : α → β} : ∀ l : List α, l.filterMap (fun d => some (f d)) = l.map f
  | [] => rfl
  | d :: l => by simp
/-- a comprehension that changes nothing and leaves nothing out -/
theorem wo_map (f : IV → PyData) (h : WO I ρ fun is ρ1 => freeOf ρ1 vs = true ∧ is.length ≤ 4000000 ∧ ∃ ρw : List SV, Nrm (wipeR ρ1 vs) ρw ∧
    (∀ d ∈ is, LcStep G T E vs d ρw (fun x ρ' => ρ' = ρw ∧ x = f d) (fun _ => False)) ∧ ∃ ρ2, Nrm (restR ρ1 (wipeR ρw vs) vs) ρ2 ∧ Q (.new (is.map f)) ρ2) : WO (fLc I G T E vs) ρ Q :=
  wo_lc (h.mono fun is ρ1 ⟨a1, a2, ρw, a3, a4, ρ2, a5, a6⟩ => ⟨a1, a2, ρw, fun d => some (f d), a3, fun d m => by
    obtain ⟨ρ2, e2, b, ρ3, e3, hy, hz⟩ := a4 d m
    exact ⟨ρ2, e2, b, ρ3, e3, fun hb => (hy hb).mono fun r ρ4 ⟨x, er, e5, e6⟩ => ⟨x, er, e5, by rw [e6]⟩, fun hb => (hz hb).elim⟩, ρ2, a5, by rw [filterMap_some]; exact a6⟩)
/-! for -/
theorem loop_inv {is : List IV} (J : Nat → List SV → Prop) (hs : ∀ k d ρ, is[k]? = some d → J k ρ → ∃ ρ2, G d ρ = some ρ2 ∧ WB B ρ2 (EB.loop D (J (k + 1)))) (hd : ∀ ρ, J is.length ρ → D.nx ρ) :
    ∀ (n k : Nat) (ρ : List SV), k + n = is.length → J k ρ → WB (loopF G B (is.drop k)) ρ D
  | 0, k, ρ, hn, hj => by
    have e : is.drop k = [] := List.drop_eq_nil_of_le (by omega)
    rw [e]
    have hk : k = is.length := by omega
    subst hk
    exact ⟨.nx ρ, rfl, hd ρ hj⟩
  | n + 1, k, ρ, hn, hj => by
    have hk : k < is.length := by omega
    have e : is.drop k = is[k] :: is.drop (k + 1) := List.drop_eq_getElem_cons hk
    obtain ⟨ρ2, e2, o, e3, ho⟩ := hs k _ ρ (List.getElem?_eq_getElem hk) hj
    rw [e]
    cases o with
    | nx ρ3 =>
      obtain ⟨o, e4, h4⟩ := loop_inv J hs hd n (k + 1) ρ3 (by omega) ho
      exact ⟨o, by unfold loopF; rw [e2]; dsimp only; rw [e3]; exact e4, h4⟩
    | ct ρ3 =>
      obtain ⟨o, e4, h4⟩ := loop_inv J hs hd n (k + 1) ρ3 (by omega) ho
      exact ⟨o, by unfold loopF; rw [e2]; dsimp only; rw [e3]; exact e4, h4⟩
    | bk ρ3 => exact ⟨.nx ρ3, by unfold loopF; rw [e2]; dsimp only; rw [e3], ho⟩
    | rt r ρ3 => exact ⟨.rt r ρ3, by unfold loopF; rw [e2]; dsimp only; rw [e3], ho⟩
theorem wb_for (h : WO I ρ fun is ρ1 => ∃ J : Nat → List SV → Prop, J 0 ρ1 ∧ (∀ k d ρ, is[k]? = some d → J k ρ → ∃ ρ2, G d ρ = some ρ2 ∧ WB B ρ2 (EB.loop D (J (k + 1)))) ∧ ∀ ρ, J is.length ρ → D.nx ρ) : WB (fFor I G B) ρ D := by
  obtain ⟨is, ρ1, e1, J, h0, hs, hd⟩ := h
  obtain ⟨o, e2, h2⟩ := loop_inv J hs hd is.length 0 ρ1 (by omega) h0
  rw [List.drop_zero] at e2
  exact ⟨o, by unfold fFor; rw [e1]; exact e2, h2⟩
/-- what a loop walks: a datum's items -/
theorem wo_iter {F : FM RV} {QI : List IV → List SV → Prop} (h : WO F ρ fun r ρ1 => ∃ x ρ2, toDat r ρ1 = some (x, ρ2) ∧ (∀ ds, r ≠ .cst ds) ∧ ∃ ds, itemsD x = some ds ∧ QI (ds.map .dat) ρ2) : WO (fIter F) ρ QI := by
  refine wo_bind (h.mono fun r ρ1 ⟨x, ρ2, e1, nc, ds, e2, q⟩ => ?_)
  have go : WO (fbind (toDat r) fun x => fun ρ => (itemsD x).map fun ds => (ds.map IV.dat, ρ)) ρ1 QI := wo_bind ⟨x, ρ2, e1, ⟨_, ρ2, by rw [e2]; rfl, q⟩⟩
  cases r with
  | cst ds => exact absurd rfl (nc ds)
  | _ => exact go
theorem wo_iterD {F : FM RV} {QI : List IV → List SV → Prop} (h : WO F ρ fun r ρ1 => ∃ x ds, r = .dat x ∧ itemsD x = some ds ∧ QI (ds.map .dat) ρ1) : WO (fIter F) ρ QI :=
  wo_iter (h.mono fun r ρ1 ⟨x, ds, e1, e2, q⟩ => by
    subst e1
    exact ⟨x, ρ1, rfl, (fun es z => nomatch z), ds, e2, q⟩)
theorem wo_rng {A : FM (List RV)} {QI : List IV → List SV → Prop} (h : WO A ρ fun rs ρ1 => ∃ ds is, views false ρ1 rs = some ds ∧ rangeD ds = some is ∧ QI is ρ1) : WO (fRange A) ρ QI :=
  wo_bind (h.mono fun rs ρ1 ⟨ds, is, e1, e2, q⟩ => ⟨_, ρ1, by dsimp only; rw [e1, Option.bind_some, e2]; rfl, q⟩)
/-- [e for t in x], x a name for a datum, nothing left out, nothing changed -/
theorem wo_mapD {i : Nat} {x : PyData} {ds : List PyData} (f : PyData → PyData) (hx : ρ[i]? = some (.d x)) (hi : itemsD x = some ds) (hl : ds.length ≤ 4000000) (hf : freeOf ρ vs = true) {ρw ρ2 : List SV} (hw : Nrm (wipeR ρ vs) ρw)
    (hs : ∀ d ∈ ds, ∃ ρ3, G (.dat d) ρw = some ρ3 ∧ WO E ρ3 fun r ρ4 => r = .dat (f d) ∧ wipeR ρ4 vs = ρw) (hr : Nrm (restR ρ (wipeR ρw vs) vs) ρ2) (q : Q (.new (ds.map f)) ρ2) : WO (fLc (fIter (fName i)) G (fpure true) E vs) ρ Q := by
  have hn : fName i ρ = some (.dat x, ρ) := by
    unfold fName
    rw [hx]
  refine wo_map (fun d => match d with
    | .dat x => f x
    | _ => .none) (wo_iterD (wo_name hn ⟨x, ds, rfl, hi, hf, by rw [List.length_map]; exact hl, ρw, hw, fun d m => ?_, ρ2, hr, ?_⟩))
  · obtain ⟨y, m1, rfl⟩ := List.mem_map.mp m
    obtain ⟨ρ3, e3, h3⟩ := hs y m1
    exact ⟨ρ3, e3, wo_pure ⟨fun _ => h3.mono fun r ρ4 ⟨e4, e5⟩ => ⟨_, e4, e5, rfl⟩, fun h => nomatch h⟩⟩
  · rw [List.map_map]
    exact q
theorem wo_rng1 {A : FM (List RV)} {QI : List IV → List SV → Prop} (h : WO A ρ fun rs ρ1 => ∃ r j, rs = [r] ∧ view false ρ1 r = some (.int j) ∧ (-1000000000 ≤ j ∧ j ≤ 1000000000) ∧ QI (rangeIV 0 j.toNat) ρ1) : WO (fbind A fun rs => if rs.length = 1 then fRange (fpure rs) else fun _ => none) ρ QI :=
  wo_bind (h.mono fun rs ρ1 ⟨r, j, e, e1, c, q⟩ => by
    subst e
    refine wo_rng (wo_pure ⟨[.int j], _, ?_, if_pos c, q⟩)
    show (view false ρ1 r).bind _ = _
    rw [e1]
    rfl)
theorem rng_mem {n : Nat} {d : IV} (h : d ∈ rangeIV 0 n) : ∃ k : Nat, k < n ∧ d = .dat (.int (k : Int)) := by
  obtain ⟨k, hk, rfl⟩ := List.mem_map.mp h
  exact ⟨k, List.mem_range.mp hk, by rw [Int.zero_add]⟩
theorem rng_len {n : Nat} : (rangeIV 0 n).length = n := by
  unfold rangeIV
  rw [List.length_map, List.length_range]
theorem op_all_map {α : Type} {g : α → Bool} {l : List α} : opAll [.list (l.map fun d => PyData.bool (g d))] = some (.bool (l.all g)) := by
  show (toBools _).map _ = _
  rw [toBools_map]
  show some (PyData.bool ((l.map g).all id)) = _
  rw [List.all_map]
  rfl
end
local macro_rules | `(tactic| top_args) => `(tactic| with_reducible tb_rel)
local macro_rules | `(tactic| top_args) => `(tactic| top_caught0)
local macro_rules | `(tactic| top_args) => `(tactic| refine ⟨_, _, rfl, op_all_map, ?_⟩)
local macro_rules | `(tactic| top_args) => `(tactic| nest_cls)

/-! k16, the plain law, part A: whole numbers, names. -/
/-- a datum of a bounded text (depth 300) -/
structure Goo3 (d : PyData) : Prop where
  f : Fit gN 300 d
theorem Goo3.ok {d : PyData} (h : Goo3 d) : okd d = true := h.f.ok
theorem Goo3.at {ds : List PyData} {i : Nat} {d : PyData} (h : Goo3 (.tuple ds)) (e : ds[i]? = some d) : Goo3 d := by
  have h1 : (tupleText (PyData.shownAll ds)).length ≤ gN := h.f.len
  have h2 := piled_le_tuple (ts := PyData.shownAll ds)
  have h3 := piled_at (shownAll_at e)
  have h4 : PyData.depthAll ds + 1 ≤ 300 := h.f.dep
  have h5 := depthAll_at e
  exact ⟨showAll_at h.f.sh e, by omega, by omega, okAll_at h.f.ok e⟩
theorem Goo3.len {ds : List PyData} (h : Goo3 (.tuple ds)) : ds.length ≤ 4000000 := by
  have h1 : (tupleText (PyData.shownAll ds)).length ≤ gN := h.f.len
  have h2 := piled_le_tuple (ts := PyData.shownAll ds)
  have h3 := piled_many (PyData.shownAll ds)
  rw [shownAll_len] at h3
  have : gN = 4000000 := rfl
  omega
def isIntD : PyData → Bool
  | .int _ => true
  | _ => false
def cntD (lo hi : Int) : PyData → Bool
  | .int i => decide (lo ≤ i) && decide (i ≤ hi)
  | _ => false
theorem e_is_integer (d : PyData) : D_is_integer [.dat d] = some (.dat (.bool (isIntD d)), []) := by cases d <;> rfl
local macro_rules | `(tactic| tb_rel) => `(tactic| refine WD.of (e_is_integer _) ?_)
theorem cnt_no {lo hi i : Int} (h : decide (lo ≤ i) = false) : cntD lo hi (.int i) = false := by
  show (decide (lo ≤ i) && _) = false
  rw [h]
  rfl
theorem cnt_yes {lo hi i : Int} (h : decide (lo ≤ i) = true) : cntD lo hi (.int i) = decide (i ≤ hi) := by
  show (decide (lo ≤ i) && _) = _
  rw [h]
  rfl
theorem e_is_word (d : PyData) : D_is_word [.dat d] = some (.dat (.bool (cntD (-2147483648) 2147483647 d)), []) := by
  cases d with
  | int i =>
    refine WD.eq (wd_run' rfl rfl (by (first | top_name | fail)) ?_)
    (repeat' (first | tb_start | fail))
    all_goals first | (rw [cnt_no ‹_›]; exact ⟨rfl, rfl⟩) | (rw [cnt_yes ‹_›]; exact ⟨rfl, rfl⟩)
  | _ => rfl
theorem e_is_count (d : PyData) (lo hi : Int) : D_is_count [.dat d, .dat (.int lo), .dat (.int hi)] = some (.dat (.bool (cntD lo hi d)), []) := by
  cases d with
  | int i =>
    refine WD.eq (wd_run' rfl rfl (by (first | top_name | fail)) ?_)
    (repeat' (first | tb_start | fail))
    all_goals first | (rw [cnt_no ‹_›]; exact ⟨rfl, rfl⟩) | (rw [cnt_yes ‹_›]; exact ⟨rfl, rfl⟩)
  | _ => rfl
abbrev kw13 : List V := [.str "array", .str "block", .str "break", .str "continue", .str "drop", .str "else", .str "func", .str "if", .str "loop", .str "put", .str "rem", .str "return", .str "trap"]
abbrev az : Str := "abcdefghijklmnopqrstuvwxyz"
abbrev az9 : Str := "abcdefghijklmnopqrstuvwxyz0123456789"
def signIn (z : Str) (c : Nat) : Bool := decide (c ∈ z.cps.toList)
/-- a name -/
def nameS (x : Str) : Bool := (decide (0 < x.length) && decide (x.length ≤ 12)) && (!inV (.str x) kw13 && ((x.cps[0]?).any (signIn az) && x.cps.toList.all (signIn az9)))
def nameD : PyData → Bool
  | .str x => nameS x
  | _ => false
theorem len_str {x : Str} (h : okd (.str x) = true) : x.length ≤ 1000000 := of_decide_eq_true (Bool.and_eq_true_iff.mp h).2
theorem ix0 {x : Str} {c : Nat} (hl : x.length ≤ 1000000) (h : x.cps[0]? = some c) : opIx (.str x) (.int 0) = some (.str ⟨#[c]⟩) := by
  show (if x.length ≤ 4000000 then (atI x.cps.toList 0).map (fun c => PyData.str ⟨#[c]⟩) else none) = _
  rw [if_pos (by omega), show atI x.cps.toList 0 = some c from atI_nat (j := 0) (by rw [Array.getElem?_toList]; exact h)]
  rfl
def sgn (z : Str) : IV → Bool
  | .dat (.str x) => (x.cps[0]?).any (signIn z)
  | _ => false
theorem all_sgn {z x : Str} : ((x.cps.toList.map fun c => PyData.str ⟨#[c]⟩).map IV.dat).all (sgn z) = x.cps.toList.all (signIn z) := by
  rw [List.all_map, List.all_map]
  rfl
theorem nameS_eq (x : Str) : nameS x = (decide ((0 : Int) < x.length) && (decide ((x.length : Int) ≤ 12) && (!inV (.str x) kw13 && ((x.cps[0]?).any (signIn az) && x.cps.toList.all (signIn az9))))) := by
  unfold nameS
  rw [Bool.and_assoc]
  congr 1
  · exact decide_eq_decide.mpr (by omega)
  · congr 1
    exact decide_eq_decide.mpr (by omega)
/-- the ways a look at a name ends -/
theorem name_len0 {x : Str} (h : decide ((0 : Int) < x.length) = false) : false = nameS x := by
  rw [nameS_eq, h]
  rfl
theorem name_len1 {x : Str} (h : (!decide ((x.length : Int) ≤ 12)) = true) : false = nameS x := by
  rw [nameS_eq, show decide ((x.length : Int) ≤ 12) = false by simpa using h, Bool.false_and, Bool.and_false]
theorem name_kw {x : Str} (h : inV (.str x) kw13 = true) : false = nameS x := by
  rw [nameS_eq, h]
  simp
theorem name_first {x : Str} {c : Nat} (hc : x.cps[0]? = some c) (h : signIn az c = false) : false = nameS x := by
  rw [nameS_eq, hc]
  simp [h]
theorem name_all {x : Str} {c : Nat} (hc : x.cps[0]? = some c) (h0 : decide ((0 : Int) < x.length) = true) (h1 : (!decide ((x.length : Int) ≤ 12)) = false) (h2 : inV (.str x) kw13 = false) (h : signIn az c = true) {b : Bool} (e : b = x.cps.toList.all (signIn az9)) : b = nameS x := by
  rw [nameS_eq, hc, h0, show decide ((x.length : Int) ≤ 12) = true by simpa using h1, h2, e]
  simp [h]
theorem ans_b {a b : Bool} (h : a = b) : RD.dat (.bool a) = RD.dat (.bool b) ∧ ([] : List (List PyData)) = [] := ⟨by rw [h], rfl⟩
theorem az_app : (Str.ofString "abcdefghijklmnopqrstuvwxyz" ++ Str.ofString "0123456789").cps.toList = az9.cps.toList := by decide
theorem e_is_name (d : PyData) (ho : okd d = true) : D_is_name [.dat d] = some (.dat (.bool (nameD d)), []) := by
  cases d with
  | str x =>
    have hl := len_str ho
    show D_is_name [.dat (.str x)] = some (.dat (.bool (nameS x)), [])
    by_cases h0 : 0 < x.length
    · obtain ⟨c0, hc0⟩ : ∃ c, x.cps[0]? = some c := ⟨x.cps[0]'h0, Array.getElem?_eq_getElem _⟩
      have hix := ix0 hl hc0
      refine WD.eq (wd_run' rfl rfl (by (first | top_name | fail)) ?_)
      (repeat' (first | tb_start | fail))
      · exact ans_b (name_len0 ‹_›)
      · exact ans_b (name_kw ‹_›)
      · refine wo_map (fun d => .bool (sgn az9 d)) (wo_iterD ?_)
        refine wo_name rfl ?_
        refine ⟨_, _, rfl, rfl, rfl, ?_, _, by (first | top_name | fail), fun d m => ?_, _, by (first | top_name | fail), ?_⟩
        · rw [List.length_map, List.length_map]
          show x.length ≤ 4000000
          omega
        · obtain ⟨y, m1, rfl⟩ := List.mem_map.mp m
          obtain ⟨c, m2, rfl⟩ := List.mem_map.mp m1
          refine ⟨_, rfl, ?_⟩
          (repeat' (first | tb_start | fail))
          refine ⟨rfl, ?_⟩
          rw [az_app]
          rfl
        · (repeat' (first | top_args | fail))
          exact ans_b (name_all hc0 ‹_› ‹_› ‹_› ‹_› all_sgn)
      · exact ans_b (name_first hc0 ‹_›)
      · exact ans_b (name_len1 ‹_›)
    · have h2 : decide ((0 : Int) < x.length) = false := decide_eq_false (by omega)
      refine WD.eq (wd_run' rfl rfl (by (first | top_name | fail)) ?_)
      (repeat' (first | tb_start | fail))
      all_goals first | exact ans_b (name_len0 h2) | exact absurd (show decide ((0 : Int) < x.length) = true from ‹_›) (by rw [h2]; exact Bool.false_ne_true)
  | _ => rfl
local macro_rules | `(tactic| tb_rel) => `(tactic| refine WD.of (e_is_word _) ?_)
local macro_rules | `(tactic| tb_rel) => `(tactic| refine WD.of (e_is_count _ _ _) ?_)

/-! k16, the plain law, part B: arrays, ascending names, heads. -/
theorem opNe_int (a b : Int) : opNe (.int a) (.int b) = some (.bool (!decide (V.int a = V.int b))) := rfl
theorem opNe_yes {a b : Int} (h : a ≠ b) : opNe (.int a) (.int b) = some (.bool true) := by
  rw [opNe_int, decide_eq_false (fun z => h (V.int.inj z))]
  rfl
local macro_rules | `(tactic| tb_rel) => `(tactic| refine WD.of (e_is_name _ (by assumption)) ?_)
def arrayD : PyData → Bool
  | .tuple [a, b] => nameD a && cntD 1 256 b
  | _ => false
theorem okd_cons {d : PyData} {ds : List PyData} (h : okdAll (d :: ds) = true) : okd d = true ∧ okdAll ds = true := Bool.and_eq_true_iff.mp h
theorem nots {b : Bool} (h : (!b) = true) : b = false := by
  cases b
  · rfl
  · cases h
theorem yess {b : Bool} (h : (!b) = false) : b = true := by
  cases b
  · cases h
  · rfl
theorem int_cnt {lo hi : Int} {d : PyData} (h : isIntD d = false) : cntD lo hi d = false := by
  cases d with
  | int i => cases h
  | _ => rfl
theorem e_is_array (d : PyData) (ho : okd d = true) : D_is_array [.dat d] = some (.dat (.bool (arrayD d)), []) := by
  cases d with
  | tuple ds =>
    match ds, ho with
    | [], _ => rfl
    | [x], _ => rfl
    | [x, y], ho =>
      obtain ⟨h1, h2⟩ := okd_cons ho
      obtain ⟨h2, _⟩ := okd_cons h2
      show D_is_array [.dat (.tuple [x, y])] = some (.dat (.bool (nameD x && cntD 1 256 y)), [])
      refine WD.eq (wd_run' rfl rfl (by (first | top_name | fail)) ?_)
      cases y with
      | int i =>
        (repeat' (first | tb_start | fail))
        · exact ans_b (by rw [nots (show (!nameD x) = true from ‹_›)]; rfl)
        · exact ans_b (by rw [cnt_no ‹_›, Bool.and_false])
        · exact ans_b (by rw [cnt_yes ‹_›, yess ‹(!nameD x) = false›, Bool.true_and])
      | _ =>
        (repeat' (first | tb_start | fail))
        all_goals exact ans_b (by rw [int_cnt rfl, Bool.and_false])
    | x :: y :: z :: r, ho =>
      have hn : opNe (.int ((x :: y :: z :: r).length : Nat)) (.int 2) = some (.bool true) := opNe_yes (by simp only [List.length_cons]; omega)
      refine WD.eq (wd_run' rfl rfl (by (first | top_name | fail)) ?_)
      (repeat' (first | tb_start | fail))
      exact ans_b rfl
  | _ => rfl
local macro_rules | `(tactic| tb_rel) => `(tactic| refine WD.of (e_is_array _ (by assumption)) ?_)
/-! ascending texts -/
def tAt (ds : List PyData) (j : Nat) : Str := match ds[j]? with
  | some (.str x) => x
  | _ => ""
theorem ix_at {xs : List Str} {j : Nat} (h : j < xs.length) {i : Int} (e : i = (j : Nat)) : opIx (.list (xs.map .str)) (.int i) = some (.str (sAt xs j)) := by
  subst e
  show atI (xs.map PyData.str) ((j : Nat) : Int) = _
  refine atI_nat ?_
  rw [List.getElem?_map, List.getElem?_eq_getElem h]
  unfold sAt
  rw [List.getElem?_eq_getElem h]
  rfl
theorem e_are_ascending (xs : List Str) (hl : xs.length ≤ 4000000) : D_are_ascending [.dat (.list (xs.map .str))] = some (.dat (.bool (ascS xs)), []) := by
  have hlen : 0 < xs.length ∨ xs.length = 0 := by omega
  refine WD.eq (wd_run' rfl rfl (by (first | top_name | fail)) ?_)
  (repeat' (first | tb_start | fail))
  refine wo_map (fun d => .bool (match d with
    | .dat (.int k) => decide ((sAt xs k.toNat).cps.toList < (sAt xs (k.toNat + 1)).cps.toList)
    | _ => false)) (wo_rng1 ?_)
  (repeat' (first | tb_start | fail))
  refine ⟨?_, rfl, ?_, _, by (first | top_name | fail), fun d m => ?_, _, by (first | top_name | fail), ?_⟩
  · rw [List.length_map]
    omega
  · rw [rng_len, List.length_map]
    omega
  · rw [List.length_map] at m
    obtain ⟨k, hk, rfl⟩ := rng_mem m
    have h1 := ix_at (xs := xs) (j := k) (by omega) rfl
    have h2 := ix_at (xs := xs) (j := k + 1) (i := (k : Int) + 1) (by omega) (by omega)
    refine ⟨_, rfl, ?_⟩
    (repeat' (first | tb_start | fail))
    exact ⟨rfl, rfl⟩
  · (repeat' (first | top_args | fail))
    refine ans_b ?_
    rw [← asc_range, rangeIV, List.all_map, List.all_map, List.length_map, show ((xs.length : Int) - 1).toNat = xs.length - 1 by omega]
    refine congrArg (List.all _) ?_
    funext k
    show decide _ = decide _
    rw [Int.zero_add]
    rfl
def keyD : PyData → Str
  | .tuple (.str x :: _) => x
  | _ => ""
def arraysD : PyData → Bool
  | .tuple ds => decide ((ds.length : Int) ≤ 8) && (ds.all arrayD && ascS (ds.map keyD))
  | _ => false
/-- an array is a name and a count -/
theorem array_of {d : PyData} (h : arrayD d = true) : ∃ x i, d = .tuple [.str x, .int i] := by
  match d, h with
  | .tuple [a, b], h =>
    have h1 := Bool.and_eq_true_iff.mp (show (nameD a && cntD 1 256 b) = true from h)
    cases a with
    | str x =>
      cases b with
      | int i => exact ⟨x, i, rfl⟩
      | _ => exact nomatch (show false = true from h1.2)
    | _ => exact nomatch (show false = true from h1.1)
theorem Goo3.mem {ds : List PyData} {d : PyData} (h : Goo3 (.tuple ds)) (m : d ∈ ds) : Goo3 d := by
  obtain ⟨i, e⟩ := List.getElem?_of_mem m
  exact h.at e
theorem e_is_arrays (d : PyData) (g : Goo3 d) : D_is_arrays [.dat d] = some (.dat (.bool (arraysD d)), []) := by
  cases d with
  | tuple ds =>
    have hl := g.len
    show D_is_arrays [.dat (.tuple ds)] = some (.dat (.bool (decide ((ds.length : Int) ≤ 8) && (ds.all arrayD && ascS (ds.map keyD)))), [])
    refine WD.eq (wd_run' rfl rfl (by (first | top_name | fail)) ?_)
    (repeat' (first | tb_start | fail))
    · refine wo_mapD (fun d => .bool (arrayD d)) rfl rfl hl rfl (by (first | top_name | fail)) (fun d m => ?_) (by (first | top_name | fail)) ?_
      · have ho := (g.mem m).ok
        refine ⟨_, rfl, ?_⟩
        (repeat' (first | tb_start | fail))
        first | exact ⟨rfl, rfl⟩ | rfl
      · (repeat' (first | top_args | fail))
        · rename_i h
          exact ans_b (by rw [nots h, Bool.false_and, Bool.and_false])
        · rename_i h0 h1 h
          have ha := yess h
          have hk : ∀ d ∈ ds, ∃ x i, d = .tuple [.str x, .int i] := fun d m => array_of (List.all_eq_true.mp ha d m)
          refine wo_mapD (fun d => .str (keyD d)) rfl rfl hl rfl (by (first | top_name | fail)) (fun d m => ?_) (by (first | top_name | fail)) ?_
          · obtain ⟨x, i, rfl⟩ := hk d m
            refine ⟨_, rfl, ?_⟩
            (repeat' (first | tb_start | fail))
            exact ⟨rfl, rfl⟩
          · have ea : D_are_ascending [.dat (.list (ds.map fun d => .str (keyD d)))] = some (.dat (.bool (ascS (ds.map keyD))), []) := by
              have := e_are_ascending (ds.map keyD) (by rw [List.length_map]; exact hl)
              rw [List.map_map] at this
              exact this
            (repeat' (first | tb_start | fail))
            exact ans_b (by rw [ha, decide_eq_true (by simpa using h1)]; rfl)
    · rename_i h _
      exact ans_b (by rw [decide_eq_false (by simpa using h)]; rfl)
  | _ => rfl
local macro_rules | `(tactic| tb_rel) => `(tactic| refine WD.of (e_is_arrays _ (by assumption)) ?_)
/-! heads: tuples with a name first, in order -/
theorem dec_gt {n : Nat} {m : Int} (h : decide (m < (n : Int)) = false) : decide ((n : Int) ≤ m) = true := decide_eq_true (by have := of_decide_eq_false h; omega)
theorem dec_gt' {n : Nat} {m : Int} (h : decide (m < (n : Int)) = true) : decide ((n : Int) ≤ m) = false := decide_eq_false (by have := of_decide_eq_true h; omega)
theorem ix_hd {x : PyData} {r : List PyData} : opIx (.tuple (x :: r)) (.int 0) = some x := atI_nat (j := 0) rfl
/-! k16, the plain law, part C: instructions. -/
abbrev bareV : List V := [.str "dup", .str "swap", .str "pop", .str "put", .str "return", .str "trap", .str "neg", .str "not", .str "add", .str "sub", .str "mul", .str "div", .str "rem", .str "and", .str "or", .str "xor", .str "shl", .str "shr", .str "lt", .str "le", .str "gt", .str "ge", .str "eq", .str "ne"]
theorem toVs_strs : ∀ l : List Str, toVs (l.map PyData.str) = some (l.map V.str)
  | [] => rfl
  | x :: l => by
    rw [List.map_cons, List.map_cons]
    show (some (V.str x)).bind (fun v => (toVs (l.map PyData.str)).map fun vs => v :: vs) = _
    rw [toVs_strs l]
    rfl
theorem in_strs {l : List Str} {c : Str} : opIn (.str c) (.list (l.map PyData.str)) = some (.bool (inV (.str c) (l.map V.str))) := by
  show (((toVs (l.map PyData.str)).map fun xs => inV (.str c) xs).map PyData.bool) = _
  rw [toVs_strs]
  rfl
/-- an instruction's name of an array or of a function -/
def nameIn (an fn : List Str) (w : Str) : PyData → Bool
  | .str x => (inV (.str w) [.str "get", .str "set"] && inV (.str x) (an.map V.str)) || (decide (V.str w = V.str "call") && inV (.str x) (fn.map V.str))
  | _ => false
def insD (s n : Int) (an fn : List Str) : PyData → Bool
  | .tuple [.str w] => inV (.str w) bareV
  | .tuple [.str w, g] => if decide (V.str w = V.str "push") = true then cntD (-2147483648) 2147483647 g else if inV (.str w) [.str "load", .str "store"] = true then cntD 0 (s - 1) g else if inV (.str w) [.str "jump", .str "jumpif"] = true then cntD 0 (n - 1) g else nameIn an fn w g
  | _ => false
section
variable {s : Int} {an fn : List Str} {nm p : PyData} {rows : List PyData}
theorem ins_2 {n : Int} {w : Str} {g : PyData} : insD s n an fn (.tuple [.str w, g]) = (if decide (V.str w = V.str "push") = true then cntD (-2147483648) 2147483647 g else if inV (.str w) [.str "load", .str "store"] = true then cntD 0 (s - 1) g else if inV (.str w) [.str "jump", .str "jumpif"] = true then cntD 0 (n - 1) g else nameIn an fn w g) := rfl
theorem ins_long {n : Int} {x y z : PyData} {r : List PyData} : insD s n an fn (.tuple (x :: y :: z :: r)) = false := by
  cases x <;> rfl
theorem e_is_instruction (d : PyData) : D_is_instruction [.dat d, .dat (.tuple [nm, p, .int s, .tuple rows]), .dat (.list (an.map PyData.str)), .dat (.list (fn.map PyData.str))] = some (.dat (.bool (insD s rows.length an fn d)), []) := by
  cases d with
  | tuple ds =>
    match ds with
    | [] =>
      refine WD.eq (wd_run' rfl rfl (by (first | top_name | fail)) ?_)
      (repeat' (first | tb_start | fail))
      all_goals exact ans_b rfl
    | [x] =>
      cases x with
      | str w =>
        refine WD.eq (wd_run' rfl rfl (by (first | top_name | fail)) ?_)
        (repeat' (first | tb_start | fail))
        all_goals exact ans_b rfl
      | _ =>
        refine WD.eq (wd_run' rfl rfl (by (first | top_name | fail)) ?_)
        (repeat' (first | tb_start | fail))
        all_goals exact ans_b rfl
    | [x, g] =>
      cases x with
      | str w =>
        cases g with
        | str x =>
          have ha := in_strs (l := an) (c := x)
          have hf := in_strs (l := fn) (c := x)
          refine WD.eq (wd_run' rfl rfl (by (first | top_name | fail)) ?_)
          (repeat' (first | tb_start | fail))
          all_goals (refine ans_b ?_; (try dsimp only at *); simp_all [ins_2, nameIn, cntD])
        | _ =>
          refine WD.eq (wd_run' rfl rfl (by (first | top_name | fail)) ?_)
          (repeat' (first | tb_start | fail))
          all_goals (refine ans_b ?_; (try dsimp only at *); simp_all [ins_2, nameIn, cntD])
      | _ =>
        refine WD.eq (wd_run' rfl rfl (by (first | top_name | fail)) ?_)
        (repeat' (first | tb_start | fail))
        all_goals exact ans_b rfl
    | x :: y :: z :: r =>
      have l : decide (((x :: y :: z :: r).length : Int) ≤ 2) = false := decide_eq_false (by simp only [List.length_cons]; omega)
      have h1 : opLe (.int ((x :: y :: z :: r).length : Nat)) (.int 2) = some (.bool false) := congrArg (fun b => some (PyData.bool b)) l
      refine WD.eq (wd_run' rfl rfl (by (first | top_name | fail)) ?_)
      (repeat' (first | tb_start | fail))
      all_goals first
        | exact ans_b ins_long.symm
        | (exfalso; simp_all; done)
        | fail
  | _ =>
    refine WD.eq (wd_run' rfl rfl (by (first | top_name | fail)) ?_)
    (repeat' (first | tb_start | fail))
    all_goals exact ans_b rfl
end

/-! k16, the plain law, part D: heads of functions. -/
theorem inS (o : Str) (l : List Str) : inV (.str o) (l.map V.str) = decide (o ∈ l) := by
  induction l with
  | nil => rfl
  | cons x r ih =>
    show ((x == o) || inV (.str o) (r.map V.str)) = _
    rw [ih, Bool.eq_iff_iff]
    simp only [Bool.or_eq_true, beq_iff_eq, decide_eq_true_eq, List.mem_cons]
    exact ⟨fun h => h.imp Eq.symm id, fun h => h.imp Eq.symm id⟩
theorem isTup_of {y : PyData} (h : isTup y = true) : ∃ ds, y = .tuple ds := by
  cases y with
  | tuple c => exact ⟨c, rfl⟩
  | _ => cases h
/-- a function but for its blocks -/
def hdD : PyData → Bool
  | .tuple [n, .int p, .int s, .tuple bs] => nameD n && (cntD 0 6 (.int p) && (cntD p 200 (.int s) && (decide ((1 : Int) ≤ bs.length) && decide ((bs.length : Int) ≤ 10000))))
  | _ => false
theorem hd_of {d : PyData} (h : hdD d = true) : ∃ x p s bs, d = .tuple [.str x, .int p, .int s, .tuple bs] ∧ nameS x = true ∧ bs.length ≤ 10000 := by
  unfold hdD at h
  split at h
  · rename_i n p s bs
    simp only [Bool.and_eq_true, decide_eq_true_eq] at h
    obtain ⟨h1, _, _, _, h5⟩ := h
    cases n with
    | str x => exact ⟨x, p, s, bs, rfl, h1, by omega⟩
    | _ => cases h1
  · cases h
theorem hd_len {r : List PyData} (h : r.length ≠ 4) : hdD (.tuple r) = false := by
  unfold hdD
  split
  · rename_i e
    cases e
    exact absurd rfl h
  · rfl
theorem hd_p {a p s b : PyData} (h : isIntD p = false) : hdD (.tuple [a, p, s, b]) = false := by
  cases p with
  | int i => cases h
  | _ => rfl
theorem hd_s {a s b : PyData} {p : Int} (h : isIntD s = false) : hdD (.tuple [a, .int p, s, b]) = false := by
  cases s with
  | int i => cases h
  | _ => rfl
theorem hd_b {a b : PyData} {p s : Int} (h : isTup b = false) : hdD (.tuple [a, .int p, .int s, b]) = false := by
  cases b with
  | tuple i => cases h
  | _ => rfl
theorem hd_4 {n : PyData} {p s : Int} {bs : List PyData} : hdD (.tuple [n, .int p, .int s, .tuple bs]) = (nameD n && (cntD 0 6 (.int p) && (cntD p 200 (.int s) && (decide ((1 : Int) ≤ bs.length) && decide ((bs.length : Int) ≤ 10000))))) := rfl
theorem isInt_of {y : PyData} (h : isIntD y = true) : ∃ c, y = .int c := by
  cases y with
  | int c => exact ⟨c, rfl⟩
  | _ => cases h
theorem e_is_head (d : PyData) (g : Goo3 d) : D_is_head [.dat d] = some (.dat (.bool (hdD d)), []) := by
  cases d with
  | tuple ds =>
    by_cases hl : ds.length = 4
    · match ds, hl, g with
      | [n, p, s, b], _, g =>
        have gn := (g.at (i := 0) rfl).ok
        cases hp : isIntD p with
        | false =>
          have e := hd_p (a := n) (s := s) (b := b) hp
          have hc := int_cnt (lo := 0) (hi := 6) hp
          refine WD.eq (wd_run' rfl rfl (by (first | top_name | fail)) ?_)
          (repeat' (first | tb_start | fail))
          all_goals first | exact ans_b e.symm | (first | exact ans_b rfl | ((try dsimp only); refine ans_b ?_; (simp_all only [Bool.not_not, List.all_cons, List.all_nil, id, Bool.not_eq_true', Bool.not_eq_false', Bool.not_eq_true, Bool.not_eq_false, Bool.not_true, Bool.not_false, if_true, if_false, ite_true, ite_false, reduceIte, Bool.true_and, Bool.false_and, Bool.and_true, Bool.and_false, Bool.true_or, Bool.false_or, Bool.or_true, Bool.or_false, Bool.false_eq_true, reduceCtorEq, Bool.and_self]); done) | (exfalso; (simp_all only [Bool.not_not, Bool.not_eq_true', Bool.not_eq_false', Bool.not_eq_true, Bool.not_eq_false, Bool.not_true, Bool.not_false, if_true, if_false, ite_true, ite_false, reduceIte, Bool.true_and, Bool.false_and, Bool.and_true, Bool.and_false, Bool.true_or, Bool.false_or, Bool.or_true, Bool.or_false, Bool.false_eq_true, reduceCtorEq, Bool.and_self]); done) | skip)
        | true =>
          obtain ⟨p, rfl⟩ := isInt_of hp
          cases hs : isIntD s with
          | false =>
            have e := hd_s (a := n) (p := p) (b := b) hs
            have hc := int_cnt (lo := p) (hi := 200) hs
            refine WD.eq (wd_run' rfl rfl (by (first | top_name | fail)) ?_)
            (repeat' (first | tb_start | fail))
            all_goals first | exact ans_b e.symm | (first | exact ans_b rfl | ((try dsimp only); refine ans_b ?_; (simp_all only [Bool.not_not, List.all_cons, List.all_nil, id, Bool.not_eq_true', Bool.not_eq_false', Bool.not_eq_true, Bool.not_eq_false, Bool.not_true, Bool.not_false, if_true, if_false, ite_true, ite_false, reduceIte, Bool.true_and, Bool.false_and, Bool.and_true, Bool.and_false, Bool.true_or, Bool.false_or, Bool.or_true, Bool.or_false, Bool.false_eq_true, reduceCtorEq, Bool.and_self]); done) | (exfalso; (simp_all only [Bool.not_not, Bool.not_eq_true', Bool.not_eq_false', Bool.not_eq_true, Bool.not_eq_false, Bool.not_true, Bool.not_false, if_true, if_false, ite_true, ite_false, reduceIte, Bool.true_and, Bool.false_and, Bool.and_true, Bool.and_false, Bool.true_or, Bool.false_or, Bool.or_true, Bool.or_false, Bool.false_eq_true, reduceCtorEq, Bool.and_self]); done) | skip)
          | true =>
            obtain ⟨s, rfl⟩ := isInt_of hs
            cases hb : isTup b with
            | false =>
              have e := hd_b (a := n) (p := p) (s := s) hb
              refine WD.eq (wd_run' rfl rfl (by (first | top_name | fail)) ?_)
              (repeat' (first | tb_start | fail))
              all_goals first | exact ans_b e.symm | (first | exact ans_b rfl | ((try dsimp only); refine ans_b ?_; (simp_all only [Bool.not_not, List.all_cons, List.all_nil, id, Bool.not_eq_true', Bool.not_eq_false', Bool.not_eq_true, Bool.not_eq_false, Bool.not_true, Bool.not_false, if_true, if_false, ite_true, ite_false, reduceIte, Bool.true_and, Bool.false_and, Bool.and_true, Bool.and_false, Bool.true_or, Bool.false_or, Bool.or_true, Bool.or_false, Bool.false_eq_true, reduceCtorEq, Bool.and_self]); done) | (exfalso; (simp_all only [Bool.not_not, Bool.not_eq_true', Bool.not_eq_false', Bool.not_eq_true, Bool.not_eq_false, Bool.not_true, Bool.not_false, if_true, if_false, ite_true, ite_false, reduceIte, Bool.true_and, Bool.false_and, Bool.and_true, Bool.and_false, Bool.true_or, Bool.false_or, Bool.or_true, Bool.or_false, Bool.false_eq_true, reduceCtorEq, Bool.and_self]); done) | skip)
            | true =>
              obtain ⟨bs, rfl⟩ := isTup_of hb
              refine WD.eq (wd_run' rfl rfl (by (first | top_name | fail)) ?_)
              (repeat' (first | tb_start | fail))
              all_goals (first | exact ans_b rfl | ((try dsimp only); refine ans_b ?_; (simp_all only [hd_4, List.all_cons, List.all_nil, id, Bool.not_eq_true', Bool.not_eq_false', Bool.not_eq_true, Bool.not_eq_false, Bool.not_true, Bool.not_false, if_true, if_false, ite_true, ite_false, reduceIte, Bool.true_and, Bool.false_and, Bool.and_true, Bool.and_false, Bool.true_or, Bool.false_or, Bool.or_true, Bool.or_false, Bool.false_eq_true, reduceCtorEq, Bool.and_self]); done) | (exfalso; (simp_all only [Bool.not_not, Bool.not_eq_true', Bool.not_eq_false', Bool.not_eq_true, Bool.not_eq_false, Bool.not_true, Bool.not_false, if_true, if_false, ite_true, ite_false, reduceIte, Bool.true_and, Bool.false_and, Bool.and_true, Bool.and_false, Bool.true_or, Bool.false_or, Bool.or_true, Bool.or_false, Bool.false_eq_true, reduceCtorEq, Bool.and_self]); done) | skip)
    · have l : opNe (.int (ds.length : Nat)) (.int 4) = some (.bool true) := opNe_yes (by omega)
      have e := hd_len hl
      refine WD.eq (wd_run' rfl rfl (by (first | top_name | fail)) ?_)
      (repeat' (first | tb_start | fail))
      all_goals first | exact ans_b e.symm | (first | exact ans_b rfl | ((try dsimp only); refine ans_b ?_; (simp_all only [Bool.not_not, List.all_cons, List.all_nil, id, Bool.not_eq_true', Bool.not_eq_false', Bool.not_eq_true, Bool.not_eq_false, Bool.not_true, Bool.not_false, if_true, if_false, ite_true, ite_false, reduceIte, Bool.true_and, Bool.false_and, Bool.and_true, Bool.and_false, Bool.true_or, Bool.false_or, Bool.or_true, Bool.or_false, Bool.false_eq_true, reduceCtorEq, Bool.and_self]); done) | (exfalso; (simp_all only [Bool.not_not, Bool.not_eq_true', Bool.not_eq_false', Bool.not_eq_true, Bool.not_eq_false, Bool.not_true, Bool.not_false, if_true, if_false, ite_true, ite_false, reduceIte, Bool.true_and, Bool.false_and, Bool.and_true, Bool.and_false, Bool.true_or, Bool.false_or, Bool.or_true, Bool.or_false, Bool.false_eq_true, reduceCtorEq, Bool.and_self]); done) | skip)
  | _ =>
    refine WD.eq (wd_run' rfl rfl (by (first | top_name | fail)) ?_)
    (repeat' (first | tb_start | fail))
    all_goals exact ans_b rfl
local macro_rules | `(tactic| tb_rel) => `(tactic| refine WD.of (e_is_head _ (by assumption)) ?_)

/-! k16, the plain law, part E: comprehensions of two clauses, run. -/
section
variable {G G1 : FG} {I I1 : FM (List IV)} {E : FM RV} {vs vs1 : List Nat} {ρ : List SV} {Q : RV → List SV → Prop}
theorem compF_map {g : PyData → PyData} {J1 : List SV → Prop} : ∀ (es : List PyData) (acc : List PyData) (ρv : List SV), J1 ρv → (∀ e ∈ es, ∀ ρv, J1 ρv → ∃ ρ4, G1 (.dat e) ρv = some ρ4 ∧ WO E ρ4 fun r ρ5 => r = .dat (g e) ∧ J1 (wipeR ρ5 vs1)) →
    ∃ ρE, compF G1 (fpure true) E vs1 (es.map IV.dat) acc ρv = some (acc ++ es.map g, ρE) ∧ J1 ρE
  | [], acc, ρv, hj, _ => by
    rw [List.map_nil, List.map_nil, List.append_nil]
    exact ⟨ρv, rfl, hj⟩
  | e :: es, acc, ρv, hj, h => by
    obtain ⟨ρ4, e4, r, ρ5, e5, rfl, hw⟩ := h e List.mem_cons_self ρv hj
    obtain ⟨ρE, ec, hE⟩ := compF_map es (acc ++ [g e]) (wipeR ρ5 vs1) hw fun e m => h e (List.mem_cons_of_mem _ m)
    refine ⟨ρE, ?_, hE⟩
    rw [List.map_cons]
    unfold compF
    rw [e4]
    dsimp only [fpure]
    rw [e5]
    dsimp only
    rw [ec, List.map_cons, List.append_assoc]
    rfl
/-- a turn of the outer clause -/
def Lc2Turn (G : FG) (I1 : FM (List IV)) (G1 : FG) (E : FM RV) (vs vs1 : List Nat) (J : List SV → Prop) (rows : List PyData) (g : PyData → PyData) (d : PyData) (ρ : List SV) : Prop :=
  ∃ ρ2, G (.dat d) ρ = some ρ2 ∧ WO I1 ρ2 fun is ρ3 => is = rows.map IV.dat ∧ freeOf ρ3 vs1 = true ∧ ∃ J1 : List SV → Prop, J1 (wipeR ρ3 vs1) ∧ (∀ ρ, J1 ρ → J (wipeR ρ vs)) ∧ ∀ e ∈ rows, ∀ ρ, J1 ρ → ∃ ρ4, G1 (.dat e) ρ = some ρ4 ∧ WO E ρ4 fun r ρ5 => r = .dat (g e) ∧ J1 (wipeR ρ5 vs1)
theorem compF2_map {rowsOf : PyData → List PyData} {g : PyData → PyData → PyData} {J : List SV → Prop} : ∀ (ds : List PyData) (acc : List PyData) (ρw : List SV), J ρw →
    (∀ d ∈ ds, ∀ ρ, J ρ → Lc2Turn G I1 G1 E vs vs1 J (rowsOf d) (g d) d ρ) →
    ∃ ρE, compF2 G (fpure true) I1 G1 (fpure true) E vs vs1 (ds.map IV.dat) acc ρw = some (acc ++ ds.flatMap fun d => (rowsOf d).map (g d), ρE) ∧ J ρE
  | [], acc, ρw, hj, _ => by
    rw [List.map_nil, List.flatMap_nil, List.append_nil]
    exact ⟨ρw, rfl, hj⟩
  | d :: ds, acc, ρw, hj, h => by
    obtain ⟨ρ2, e2, is, ρ3, e3, rfl, hf, J1, h1, h2, ht⟩ := h d List.mem_cons_self ρw hj
    obtain ⟨ρ4, e4, h4⟩ := compF_map (G1 := G1) (E := E) (vs1 := vs1) (g := g d) (J1 := J1) (rowsOf d) acc _ h1 ht
    obtain ⟨ρE, ec, hE⟩ := compF2_map ds (acc ++ (rowsOf d).map (g d)) (wipeR ρ4 vs) (h2 _ h4) fun d m => h d (List.mem_cons_of_mem _ m)
    refine ⟨ρE, ?_, hE⟩
    rw [List.map_cons]
    unfold compF2
    rw [e2]
    dsimp only [fpure]
    rw [e3]
    dsimp only
    rw [if_pos hf, e4]
    dsimp only
    rw [ec, List.flatMap_cons, List.append_assoc]
/-- [e for a in xs for b in ys] that leaves nothing out; J what stays of the slots -/
theorem wo_lc2M {ds : List PyData} (rowsOf : PyData → List PyData) (g : PyData → PyData → PyData) (J : List SV → Prop) (hI : WO I ρ fun is ρ1 => is = ds.map IV.dat ∧ ρ1 = ρ) (hf : freeOf ρ vs = true) (hw : J (wipeR ρ vs))
    (hs : ∀ d ∈ ds, ∀ ρ, J ρ → Lc2Turn G I1 G1 E vs vs1 J (rowsOf d) (g d) d ρ)
    (hl : (ds.flatMap fun d => (rowsOf d).map (g d)).length ≤ 4000000) (q : ∀ ρE, J ρE → ∃ ρ2, Nrm (restR ρ (wipeR ρE vs) vs) ρ2 ∧ Q (.new (ds.flatMap fun d => (rowsOf d).map (g d))) ρ2) : WO (fLc2 I G (fpure true) I1 G1 (fpure true) E vs vs1) ρ Q := by
  obtain ⟨is, ρ1, e1, rfl, rfl⟩ := hI
  obtain ⟨ρE, ec, hE⟩ := compF2_map ds [] _ hw hs
  obtain ⟨ρ2, hr, q⟩ := q ρE hE
  have hr : restR ρ1 (wipeR ρE vs) vs = ρ2 := hr
  refine ⟨_, _, ?_, q⟩
  unfold fLc2
  rw [e1]
  dsimp only
  rw [if_pos hf, ec]
  dsimp only
  rw [List.nil_append, if_pos hl, hr]
end
/-! names in turn -/
theorem zip_asc : ∀ xs : List Str, ((xs.zip xs.tail).map fun p => decide (p.1.cps.toList < p.2.cps.toList)).all id = ascS xs
  | [] => rfl
  | [x] => rfl
  | x :: y :: r => by
    have ih := zip_asc (y :: r)
    rw [List.tail_cons, List.zip_cons_cons, List.map_cons, List.all_cons]
    rw [List.tail_cons] at ih
    rw [ih]
    rfl
/-- the instructions of a function -/
def rowsOk (an fn : List Str) : PyData → Bool
  | .tuple [_, _, .int s, .tuple rows] => rows.all (insD s rows.length an fn)
  | _ => false
def namesD : PyData → List Str
  | .tuple ds => ds.map keyD
  | _ => []
/-- a code program -/
def codeD : PyData → Bool
  | .tuple [a, .tuple fs] => arraysD a && ((decide ((1 : Int) ≤ fs.length) && decide ((fs.length : Int) ≤ 12)) && (fs.all hdD && (ascS (fs.map keyD) && fs.all (rowsOk (namesD a) (fs.map keyD)))))
  | _ => false

/-! k16, the plain law, part F: is_code. -/
theorem wo_mapE {I : FM (List IV)} {G : FG} {E : FM RV} {vs : List Nat} {ρ : List SV} {Q : RV → List SV → Prop} {ds : List PyData} (f : PyData → PyData) (hI : WO I ρ fun is ρ1 => is = ds.map .dat ∧ ρ1 = ρ) (hl : ds.length ≤ 4000000) (hf : freeOf ρ vs = true) {ρw ρ2 : List SV} (hw : Nrm (wipeR ρ vs) ρw)
    (hs : ∀ d ∈ ds, ∃ ρ3, G (.dat d) ρw = some ρ3 ∧ WO E ρ3 fun r ρ4 => r = .dat (f d) ∧ wipeR ρ4 vs = ρw) (hr : Nrm (restR ρ (wipeR ρw vs) vs) ρ2) (q : Q (.new (ds.map f)) ρ2) : WO (fLc I G (fpure true) E vs) ρ Q := by
  refine wo_map (fun d => match d with
    | .dat x => f x
    | _ => .none) (hI.mono fun is ρ1 ⟨e1, e2⟩ => ?_)
  subst e1 e2
  refine ⟨hf, by rw [List.length_map]; exact hl, ρw, hw, fun d m => ?_, ρ2, hr, ?_⟩
  · obtain ⟨y, m1, rfl⟩ := List.mem_map.mp m
    obtain ⟨ρ3, e3, h3⟩ := hs y m1
    exact ⟨ρ3, e3, wo_pure ⟨fun _ => h3.mono fun r ρ4 ⟨e4, e5⟩ => ⟨_, e4, e5, rfl⟩, fun h => nomatch h⟩⟩
  · rw [List.map_map]
    exact q
theorem wo_zip {A : FM (List RV)} {ρ : List SV} {QI : List IV → List SV → Prop} (h : WO A ρ fun rs ρ1 => ∃ ds is, dats rs = some ds ∧ zipD ds = some is ∧ QI is ρ1) : WO (fZip A) ρ QI :=
  wo_bind (h.mono fun rs ρ1 ⟨ds, is, e1, e2, q⟩ => ⟨_, ρ1, by dsimp only; rw [e1, Option.bind_some, e2]; rfl, q⟩)
theorem cut_tail {ds : List PyData} : cutD ds (some 1) none = ds.tail := by
  unfold cutD
  rw [HT.sIx_none, show (1 : Int) = ((1 : Nat) : Int) from rfl, HT.sIx_nat]
  cases ds with
  | nil => rfl
  | cons d r =>
    rw [show min 1 (d :: r).length = 1 from Nat.min_eq_left (by simp only [List.length_cons]; omega)]
    exact List.take_of_length_le (Nat.le_refl _)
theorem pairs_zip : ∀ xs ys : List Str, pairs (xs.map PyData.str) (ys.map PyData.str) = (xs.zip ys).map fun p => IV.tup [.str p.1, .str p.2]
  | [], ys => by
    cases ys <;> rfl
  | x :: xs, [] => rfl
  | x :: xs, y :: ys => by
    rw [List.zip_cons_cons, List.map_cons, List.map_cons, List.map_cons, ← pairs_zip xs ys]
    rfl
theorem zip_names {xs : List Str} : zipD [.list (xs.map PyData.str), .list (cutD (xs.map PyData.str) (some 1) none)] = some ((xs.zip xs.tail).map fun p => IV.tup [.str p.1, .str p.2]) := by
  rw [cut_tail, ← List.map_tail]
  exact congrArg some (pairs_zip xs xs.tail)
/-- whether a pair of names stands in turn -/
def ltIV : IV → PyData
  | .tup [.str a, .str b] => .bool (decide (a.cps.toList < b.cps.toList))
  | _ => .none
theorem all_flat {ds : List PyData} {f : PyData → List PyData} {g : PyData → PyData → Bool} : opAll [.list (ds.flatMap fun d => (f d).map fun e => PyData.bool (g d e))] = some (.bool (ds.all fun d => (f d).all (g d))) := by
  have e : (ds.flatMap fun d => (f d).map fun e => PyData.bool (g d e)) = (ds.flatMap fun d => (f d).map (g d)).map PyData.bool := by
    rw [List.map_flatMap]
    simp only [List.map_map]
    rfl
  rw [e]
  refine Eq.trans (op_all_map (g := fun b : Bool => b)) ?_
  rw [List.all_flatMap]
  simp only [List.all_map]
  rfl
theorem code_nt {x y : PyData} (h : isTup y = false) : codeD (.tuple [x, y]) = false := by
  cases y with
  | tuple c => cases h
  | _ => rfl
theorem code_no {r : List PyData} (h : r.length ≠ 2) : codeD (.tuple r) = false := by
  unfold codeD
  split
  · rename_i e
    cases e
    exact absurd rfl h
  · rfl
theorem code_2 {a : PyData} {fs : List PyData} : codeD (.tuple [a, .tuple fs]) = (arraysD a && ((decide ((1 : Int) ≤ fs.length) && decide ((fs.length : Int) ≤ 12)) && (fs.all hdD && (ascS (fs.map keyD) && fs.all (rowsOk (namesD a) (fs.map keyD)))))) := rfl
theorem flat_len {ds : List PyData} {f : PyData → List PyData} {k : Nat} (h : ∀ d ∈ ds, (f d).length ≤ k) : (ds.flatMap f).length ≤ k * ds.length := by
  induction ds with
  | nil => exact Nat.zero_le _
  | cons d ds ih =>
    rw [List.flatMap_cons, List.length_append, List.length_cons, Nat.mul_succ]
    have := h d List.mem_cons_self
    have := ih fun d m => h d (List.mem_cons_of_mem _ m)
    omega
def rowsF : PyData → List PyData
  | .tuple [_, _, _, .tuple rows] => rows
  | _ => []
def slotF : PyData → Int
  | .tuple [_, _, .int s, _] => s
  | _ => 0
/-- the slots while the instructions are looked at -/
def CodeJ (v f : PyData) (s2 : SV) (names : List PyData) (L : List PyData) (ρ : List SV) : Prop := ∃ s6, (s6 = .own L ∨ s6 = .d (.list L)) ∧ ρ = [.d v, .d f, s2, .d (.list names), .un, .un, s6, .un, .un, .un]
theorem e_is_code2 {a : PyData} {fs : List PyData} (g : Goo3 (.tuple [a, .tuple fs])) : D_is_code [.dat (.tuple [a, .tuple fs])] = some (.dat (.bool (codeD (.tuple [a, .tuple fs]))), []) := by
  have ga := g.at (i := 0) rfl
  have gf := g.at (i := 1) rfl
  have hl := gf.len
  refine WD.eq (wd_run' rfl rfl (by (first | top_name | fail)) ?_)
  (repeat' (first | tb_start | fail))
  all_goals (first | exact ans_b rfl | ((try dsimp only); refine ans_b ?_; (simp_all only [code_2, List.all_cons, List.all_nil, id, Bool.not_eq_true', Bool.not_eq_false', Bool.not_eq_true, Bool.not_eq_false, Bool.not_true, Bool.not_false, if_true, if_false, ite_true, ite_false, reduceIte, Bool.true_and, Bool.false_and, Bool.and_true, Bool.and_false, Bool.true_or, Bool.false_or, Bool.or_true, Bool.or_false, Bool.false_eq_true, reduceCtorEq, Bool.and_self]); done) | (exfalso; (simp_all only [Bool.not_not, Bool.not_eq_true', Bool.not_eq_false', Bool.not_eq_true, Bool.not_eq_false, Bool.not_true, Bool.not_false, if_true, if_false, ite_true, ite_false, reduceIte, Bool.true_and, Bool.false_and, Bool.and_true, Bool.and_false, Bool.true_or, Bool.false_or, Bool.or_true, Bool.or_false, Bool.false_eq_true, reduceCtorEq, Bool.and_self]); done) | skip)
  refine wo_mapD (fun d => .bool (hdD d)) rfl rfl hl rfl (by (first | top_name | fail)) (fun d m => ?_) (by (first | top_name | fail)) ?_
  · have gd := gf.mem m
    refine ⟨_, rfl, ?_⟩
    (repeat' (first | tb_start | fail))
    first | exact ⟨rfl, rfl⟩ | exact rfl
  (repeat' (first | top_args | fail))
  · (first | exact ans_b rfl | ((try dsimp only); refine ans_b ?_; (simp_all only [code_2, List.all_cons, List.all_nil, id, Bool.not_eq_true', Bool.not_eq_false', Bool.not_eq_true, Bool.not_eq_false, Bool.not_true, Bool.not_false, if_true, if_false, ite_true, ite_false, reduceIte, Bool.true_and, Bool.false_and, Bool.and_true, Bool.and_false, Bool.true_or, Bool.false_or, Bool.or_true, Bool.or_false, Bool.false_eq_true, reduceCtorEq, Bool.and_self]); done) | (exfalso; (simp_all only [Bool.not_not, Bool.not_eq_true', Bool.not_eq_false', Bool.not_eq_true, Bool.not_eq_false, Bool.not_true, Bool.not_false, if_true, if_false, ite_true, ite_false, reduceIte, Bool.true_and, Bool.false_and, Bool.and_true, Bool.and_false, Bool.true_or, Bool.false_or, Bool.or_true, Bool.or_false, Bool.false_eq_true, reduceCtorEq, Bool.and_self]); done) | skip)
  have ha := yess ‹(!arraysD a) = false›
  have hf := yess ‹(!fs.all hdD) = false›
  refine wo_mapD (fun d => .str (keyD d)) rfl rfl hl rfl (by (first | top_name | fail)) (fun d m => ?_) (by (first | top_name | fail)) ?_
  · obtain ⟨x, p, s, bs, rfl, _⟩ := hd_of (List.all_eq_true.mp hf d m)
    refine ⟨_, rfl, ?_⟩
    (repeat' (first | tb_start | fail))
    first | exact ⟨rfl, rfl⟩ | exact rfl
  (repeat' (first | tb_start | fail))
  generalize hxs : fs.map keyD = xs at *
  have en : (fs.map fun d => PyData.str (keyD d)) = xs.map PyData.str := by rw [← hxs, List.map_map]; rfl
  rw [en]
  have hz := zip_names (xs := xs)
  refine wo_map ltIV (wo_zip ?_)
  (repeat' (first | tb_start | fail))
  refine ⟨rfl, by rw [List.length_map, List.length_zip, ← hxs, List.length_map]; exact Nat.le_trans (Nat.min_le_left _ _) hl, _, by (first | top_name | fail), fun d m => ?_, _, by (first | top_name | fail), ?_⟩
  · obtain ⟨p, mp, rfl⟩ := List.mem_map.mp m
    refine ⟨_, rfl, ?_⟩
    (repeat' (first | tb_start | fail))
    exact ⟨rfl, rfl⟩
  have ho : opAll [.list (List.map ltIV (List.map (fun p => IV.tup [PyData.str p.fst, PyData.str p.snd]) (xs.zip xs.tail)))] = some (.bool (ascS xs)) := by
    rw [List.map_map]
    refine Eq.trans (op_all_map (g := fun p : Str × Str => decide (p.1.cps.toList < p.2.cps.toList)) (l := xs.zip xs.tail)) ?_
    rw [← zip_asc xs, List.all_map]
    rfl
  obtain ⟨ds, rfl⟩ : ∃ ds, a = .tuple ds := by
    cases a <;> first | exact ⟨_, rfl⟩ | cases ha
  have had : ds.all arrayD = true := by
    have h := ha
    simp only [arraysD, Bool.and_eq_true] at h
    exact h.2.1
  (repeat' (first | tb_start | fail))
  · refine ans_b ?_
    rw [code_2, hxs, nots ‹(!ascS xs) = true›]
    simp
  have hasc := yess ‹(!ascS xs) = false›
  refine wo_mapE (ds := ds) (fun d => .str (keyD d)) (by refine wo_iterD ?_; (repeat' (first | tb_start | fail)); exact ⟨rfl, rfl⟩) ga.len rfl (by (first | top_name | fail)) (fun d m => ?_) (by (first | top_name | fail)) ?_
  · obtain ⟨x, i, rfl⟩ := array_of (List.all_eq_true.mp had d m)
    refine ⟨_, rfl, ?_⟩
    (repeat' (first | tb_start | fail))
    first | exact ⟨rfl, rfl⟩ | exact rfl
  (repeat' (first | tb_start | fail))
  have ea : (ds.map fun d => PyData.str (keyD d)) = (ds.map keyD).map PyData.str := by rw [List.map_map]; rfl
  rw [ea]
  have hall : opAll [.list (fs.flatMap fun d => (rowsF d).map fun e => PyData.bool (insD (slotF d) (rowsF d).length (ds.map keyD) xs e))] = some (.bool (fs.all fun d => (rowsF d).all (insD (slotF d) (rowsF d).length (ds.map keyD) xs))) := all_flat
  refine wo_lc2M (ds := fs) rowsF (fun d e => .bool (insD (slotF d) (rowsF d).length (ds.map keyD) xs e)) (CodeJ (.tuple [.tuple ds, .tuple fs]) (.tuple fs) .un (xs.map PyData.str) ((ds.map keyD).map PyData.str)) (by refine wo_iterD ?_; (repeat' (first | tb_start | fail)); exact ⟨rfl, rfl⟩) rfl ⟨_, .inl rfl, rfl⟩ ?_ ?_ ?_
  · rintro d m ρ ⟨s6, h6, rfl⟩
    obtain ⟨x, p, s, rows, rfl, _⟩ := hd_of (List.all_eq_true.mp hf d m)
    refine ⟨_, rfl, ?_⟩
    refine wo_iterD ?_
    (repeat' (first | tb_start | fail))
    refine ⟨rfl, rfl, CodeJ (.tuple [.tuple ds, .tuple fs]) (.tuple fs) (.d (.tuple [.str x, .int p, .int s, .tuple rows])) (xs.map PyData.str) ((ds.map keyD).map PyData.str), ⟨s6, h6, rfl⟩, ?_, ?_⟩
    · rintro ρ ⟨s6, h6, rfl⟩
      exact ⟨s6, h6, rfl⟩
    · rintro e me ρ ⟨s6, h6, rfl⟩
      refine ⟨_, rfl, ?_⟩
      have hi := e_is_instruction (s := s) (an := ds.map keyD) (fn := xs) (nm := .str x) (p := .int p) (rows := rows) e
      rcases h6 with rfl | rfl
      all_goals
        (repeat' (first | tb_start | fail))
        exact ⟨rfl, _, .inr rfl, rfl⟩
  · have h12 : ((fs.length : Nat) : Int) ≤ 12 := of_decide_eq_true (yess ‹(!decide ((fs.length : Int) ≤ 12)) = false›)
    have hb : (fs.flatMap fun d => (rowsF d).map fun e => PyData.bool (insD (slotF d) (rowsF d).length (ds.map keyD) xs e)).length ≤ 10000 * fs.length := flat_len fun d m => by
      obtain ⟨x, p, s, bs, rfl, _, hb⟩ := hd_of (List.all_eq_true.mp hf d m)
      rw [List.length_map]
      exact hb
    exact Nat.le_trans hb (by omega)
  · rintro ρE ⟨s6, h6, rfl⟩
    refine ⟨_, nrm_id, ?_⟩
    (repeat' (first | tb_start | fail))
    refine ans_b ?_
    have h1 : decide ((1 : Int) ≤ fs.length) = true := ‹_›
    have h12 := yess ‹(!decide ((fs.length : Int) ≤ 12)) = false›
    rw [code_2, ha, h1, h12, hf, hxs, hasc]
    simp only [Bool.true_and]
    rw [Bool.eq_iff_iff, List.all_eq_true, List.all_eq_true]
    refine forall_congr' fun d => ?_
    refine ⟨fun h m => ?_, fun h m => ?_⟩
    all_goals
      obtain ⟨x, p, s, bs, rfl, _⟩ := hd_of (List.all_eq_true.mp hf d m)
      exact h m
theorem e_is_code (d : PyData) (g : Goo3 d) : D_is_code [.dat d] = some (.dat (.bool (codeD d)), []) := by
  cases d with
  | tuple ds =>
    by_cases hl : ds.length = 2
    · match ds, hl, g with
      | [a, b], _, g =>
        cases hb : isTup b with
        | true =>
          obtain ⟨fs, rfl⟩ := isTup_of hb
          exact e_is_code2 g
        | false =>
          have ga := g.at (i := 0) rfl
          have e := code_nt (x := a) hb
          refine WD.eq (wd_run' rfl rfl (by (first | top_name | fail)) ?_)
          (repeat' (first | tb_start | fail))
          all_goals first | exact ans_b e.symm | (first | exact ans_b rfl | ((try dsimp only); refine ans_b ?_; (simp_all only [Bool.not_not, List.all_cons, List.all_nil, id, Bool.not_eq_true', Bool.not_eq_false', Bool.not_eq_true, Bool.not_eq_false, Bool.not_true, Bool.not_false, if_true, if_false, ite_true, ite_false, reduceIte, Bool.true_and, Bool.false_and, Bool.and_true, Bool.and_false, Bool.true_or, Bool.false_or, Bool.or_true, Bool.or_false, Bool.false_eq_true, reduceCtorEq, Bool.and_self]); done) | (exfalso; (simp_all only [Bool.not_not, Bool.not_eq_true', Bool.not_eq_false', Bool.not_eq_true, Bool.not_eq_false, Bool.not_true, Bool.not_false, if_true, if_false, ite_true, ite_false, reduceIte, Bool.true_and, Bool.false_and, Bool.and_true, Bool.and_false, Bool.true_or, Bool.false_or, Bool.or_true, Bool.or_false, Bool.false_eq_true, reduceCtorEq, Bool.and_self]); done) | skip)
    · have l : opNe (.int (ds.length : Nat)) (.int 2) = some (.bool true) := opNe_yes (by omega)
      have e := code_no hl
      refine WD.eq (wd_run' rfl rfl (by (first | top_name | fail)) ?_)
      (repeat' (first | tb_start | fail))
      all_goals first | exact ans_b e.symm | (first | exact ans_b rfl | ((try dsimp only); refine ans_b ?_; (simp_all only [Bool.not_not, List.all_cons, List.all_nil, id, Bool.not_eq_true', Bool.not_eq_false', Bool.not_eq_true, Bool.not_eq_false, Bool.not_true, Bool.not_false, if_true, if_false, ite_true, ite_false, reduceIte, Bool.true_and, Bool.false_and, Bool.and_true, Bool.and_false, Bool.true_or, Bool.false_or, Bool.or_true, Bool.or_false, Bool.false_eq_true, reduceCtorEq, Bool.and_self]); done) | (exfalso; (simp_all only [Bool.not_not, Bool.not_eq_true', Bool.not_eq_false', Bool.not_eq_true, Bool.not_eq_false, Bool.not_true, Bool.not_false, if_true, if_false, ite_true, ite_false, reduceIte, Bool.true_and, Bool.false_and, Bool.and_true, Bool.and_false, Bool.true_or, Bool.false_or, Bool.or_true, Bool.or_false, Bool.false_eq_true, reduceCtorEq, Bool.and_self]); done) | skip)
  | _ =>
    refine WD.eq (wd_run' rfl rfl (by (first | top_name | fail)) ?_)
    (repeat' (first | tb_start | fail))
    all_goals exact ans_b rfl
local macro_rules | `(tactic| tb_rel) => `(tactic| refine WD.of (e_is_code _ (by assumption)) ?_)

/-! k15, the plain law: the own look: whole numbers, names, instructions. -/
theorem wo_get2 {F G F3 : FM RV} {ρ : List SV} {Q : RV → List SV → Prop} (h : WO F ρ fun x ρ1 => ∃ kvs, x = .dat (.dict kvs) ∧ WO G ρ1 fun y ρ2 => WO F3 ρ2 fun r ρ3 => WO (toDat r) ρ3 fun w ρ4 => ∃ dk k z, view false ρ4 y = some dk ∧ keyOf dk = some k ∧ (lookD kvs k).getD w = z ∧ Q (.dat z) ρ4) : WO (fGet2 F G F3) ρ Q :=
  wo_bind (h.mono fun x ρ1 ⟨kvs, e, h⟩ => by
    subst e
    exact wo_bind (h.mono fun y ρ2 h => wo_bind (h.mono fun r ρ3 h => wo_bind (h.mono fun w ρ4 ⟨dk, k, z, e1, e2, e3, q⟩ => ⟨_, ρ4, by dsimp only; rw [e1, Option.bind_some, e2]; rfl, by rw [e3]; exact q⟩))))
theorem e_law_whole (d : PyData) (lo hi : Int) : D_law_whole [.dat d, .dat (.int lo), .dat (.int hi)] = some (.dat (.bool (cntD lo hi d)), []) := by
  cases d with
  | int i =>
    refine WD.eq (wd_run' rfl rfl (by (first | top_name | fail)) ?_)
    (repeat' (first | tb_start | fail))
    all_goals first | (rw [cnt_no ‹_›]; exact ⟨rfl, rfl⟩) | (rw [cnt_yes ‹_›]; exact ⟨rfl, rfl⟩)
  | _ => rfl
local macro_rules | `(tactic| tb_rel) => `(tactic| refine WD.of (e_law_whole _ _ _) ?_)
abbrev kwL : List Str := ["array", "block", "break", "continue", "drop", "else", "func", "if", "loop", "put", "rem", "return", "trap"]
theorem in_kw {x : Str} : opIn (.str x) (.list (kwL.map PyData.str)) = some (.bool (inV (.str x) kw13)) := in_strs
theorem az_cut : opSl (.str "abcdefghijklmnopqrstuvwxyz0123456789") none (some 26) = some (.str az) := by
  have e : cutS "abcdefghijklmnopqrstuvwxyz0123456789" none (some 26) = az := by decide +kernel
  have h : (if ("abcdefghijklmnopqrstuvwxyz0123456789" : Str).length ≤ 4000000 then some (PyData.str (cutS "abcdefghijklmnopqrstuvwxyz0123456789" none (some 26))) else none) = some (.str az) := by
    rw [if_pos (by decide +kernel), e]
  exact h
theorem e_law_is_name (d : PyData) (ho : okd d = true) : D_law_is_name [.dat d, .dat (.list (kwL.map PyData.str))] = some (.dat (.bool (nameD d)), []) := by
  cases d with
  | str x =>
    have hl := len_str ho
    have hkw := in_kw (x := x)
    have hcut := az_cut
    show D_law_is_name [.dat (.str x), .dat (.list (kwL.map PyData.str))] = some (.dat (.bool (nameS x)), [])
    by_cases h0 : 0 < x.length
    · obtain ⟨c0, hc0⟩ : ∃ c, x.cps[0]? = some c := ⟨x.cps[0]'h0, Array.getElem?_eq_getElem _⟩
      have hix := ix0 hl hc0
      have h1 : decide ((1 : Int) ≤ (x.length : Int)) = true := decide_eq_true (by omega)
      have h00 : decide ((0 : Int) < (x.length : Int)) = true := decide_eq_true (by omega)
      refine WD.eq (wd_run' rfl rfl (by (first | top_name | fail)) ?_)
      (repeat' (first | tb_start | fail))
      · exact absurd (show decide ((1 : Int) ≤ x.length) = false from ‹_›) (by rw [h1]; exact fun z => nomatch z)
      · exact ans_b (name_kw ‹_›)
      · refine wo_map (fun d => .bool (sgn az9 d)) (wo_iterD ?_)
        refine wo_name rfl ?_
        refine ⟨_, _, rfl, rfl, rfl, ?_, _, by (first | top_name | fail), fun d m => ?_, _, by (first | top_name | fail), ?_⟩
        · rw [List.length_map, List.length_map]
          show x.length ≤ 4000000
          omega
        · obtain ⟨y, m1, rfl⟩ := List.mem_map.mp m
          obtain ⟨c, m2, rfl⟩ := List.mem_map.mp m1
          refine ⟨_, rfl, ?_⟩
          (repeat' (first | tb_start | fail))
          exact ⟨rfl, rfl⟩
        · (repeat' (first | top_args | fail))
          exact ans_b (name_all hc0 h00 ‹_› ‹_› ‹_› all_sgn)
      · exact ans_b (name_first hc0 ‹_›)
      · exact ans_b (name_len1 ‹_›)
    · have h2 : decide ((0 : Int) < x.length) = false := decide_eq_false (by omega)
      have h3 : decide ((1 : Int) ≤ x.length) = false := decide_eq_false (by omega)
      refine WD.eq (wd_run' rfl rfl (by (first | top_name | fail)) ?_)
      (repeat' (first | tb_start | fail))
      all_goals first | exact ans_b (name_len0 h2) | exact absurd (show decide ((1 : Int) ≤ x.length) = true from ‹_›) (by rw [h3]; exact Bool.false_ne_true)
  | _ => rfl
/-! instructions -/
abbrev bareL2 : List Str := ["add", "sub", "mul", "div", "rem", "and", "or", "xor", "shl", "shr", "lt", "le", "gt", "ge", "eq", "ne", "neg", "not", "dup", "swap", "pop", "put", "return", "trap"]
theorem bare_eq {w : Str} : inV (.str w) (bareL2.map V.str) = inV (.str w) bareV := by
  rw [show bareV = ([("dup" : Str), "swap", "pop", "put", "return", "trap", "neg", "not", "add", "sub", "mul", "div", "rem", "and", "or", "xor", "shl", "shr", "lt", "le", "gt", "ge", "eq", "ne"] : List Str).map V.str from rfl, inS, inS]
  refine decide_eq_decide.mpr ?_
  have h1 : ∀ x ∈ bareL2, x ∈ ([("dup" : Str), "swap", "pop", "put", "return", "trap", "neg", "not", "add", "sub", "mul", "div", "rem", "and", "or", "xor", "shl", "shr", "lt", "le", "gt", "ge", "eq", "ne"] : List Str) := by decide +kernel
  have h2 : ∀ x ∈ ([("dup" : Str), "swap", "pop", "put", "return", "trap", "neg", "not", "add", "sub", "mul", "div", "rem", "and", "or", "xor", "shl", "shr", "lt", "le", "gt", "ge", "eq", "ne"] : List Str), x ∈ bareL2 := by decide +kernel
  exact ⟨h1 w, h2 w⟩
abbrev knD (an fn : List Str) : PyData := .dict [(.str "get", .list (an.map PyData.str)), (.str "set", .list (an.map PyData.str)), (.str "call", .list (fn.map PyData.str))]
abbrev knK (an fn : List Str) : List (PyData × PyData) := [(.str "get", .list (an.map PyData.str)), (.str "set", .list (an.map PyData.str)), (.str "call", .list (fn.map PyData.str))]
def ownN (an fn : List Str) (w : Str) : List Str := if w = "get" then an else if w = "set" then an else if w = "call" then fn else []
theorem look_kn {an fn : List Str} {w : Str} : (lookD (knK an fn) (.inr w)).getD (.list []) = .list ((ownN an fn w).map PyData.str) := by
  have ne : ∀ {a b : Str}, a ≠ b → decide (keyOf (.str a) = some (.inr b)) = false := fun h => decide_eq_false fun z => h (Sum.inr.inj (Option.some.inj z))
  have yes : ∀ {a : Str}, decide (keyOf (.str a) = some (.inr a)) = true := decide_eq_true rfl
  unfold ownN lookD
  by_cases h1 : w = "get"
  · subst h1
    rw [if_pos rfl, List.find?_cons, yes]
    rfl
  rw [if_neg h1, List.find?_cons, ne (Ne.symm h1)]
  by_cases h2 : w = "set"
  · subst h2
    rw [if_pos rfl, List.find?_cons, yes]
    rfl
  rw [if_neg h2, List.find?_cons, ne (Ne.symm h2)]
  by_cases h3 : w = "call"
  · subst h3
    rw [if_pos rfl, List.find?_cons, yes]
    rfl
  rw [if_neg h3, List.find?_cons, ne (Ne.symm h3)]
  rfl
theorem own_in {an fn : List Str} {w x : Str} : inV (.str x) ((ownN an fn w).map V.str) = nameIn an fn w (.str x) := by
  unfold ownN nameIn
  have e : inV (.str w) [.str "get", .str "set"] = decide (w ∈ ([("get" : Str), "set"] : List Str)) := inS w ["get", "set"]
  rw [e, show decide (V.str w = V.str "call") = decide (w = "call") from decide_eq_decide.mpr ⟨fun z => V.str.inj z, fun z => congrArg V.str z⟩]
  by_cases h1 : w = "get"
  · subst h1
    rw [if_pos rfl, decide_eq_true (show ("get" : Str) ∈ ([("get" : Str), "set"] : List Str) by decide), decide_eq_false (show ¬ ("get" : Str) = "call" by decide)]
    simp
  rw [if_neg h1]
  by_cases h2 : w = "set"
  · subst h2
    rw [if_pos rfl, decide_eq_true (show ("set" : Str) ∈ ([("get" : Str), "set"] : List Str) by decide), decide_eq_false (show ¬ ("set" : Str) = "call" by decide)]
    simp
  rw [if_neg h2, decide_eq_false (show ¬ w ∈ ([("get" : Str), "set"] : List Str) by simp [h1, h2])]
  by_cases h3 : w = "call"
  · subst h3
    rw [if_pos rfl, decide_eq_true rfl]
    simp
  rw [if_neg h3, decide_eq_false h3]
  rfl
theorem in_4 {w : Str} : inV (.str w) [.str "load", .str "store", .str "jump", .str "jumpif"] = (inV (.str w) [.str "load", .str "store"] || inV (.str w) [.str "jump", .str "jumpif"]) := by
  rw [show inV (.str w) [.str "load", .str "store", .str "jump", .str "jumpif"] = decide (w ∈ ([("load" : Str), "store", "jump", "jumpif"] : List Str)) from inS w ["load", "store", "jump", "jumpif"], show inV (.str w) [.str "load", .str "store"] = decide (w ∈ ([("load" : Str), "store"] : List Str)) from inS w ["load", "store"], show inV (.str w) [.str "jump", .str "jumpif"] = decide (w ∈ ([("jump" : Str), "jumpif"] : List Str)) from inS w ["jump", "jumpif"], ← Bool.decide_or]
  refine decide_eq_decide.mpr ?_
  simp only [List.mem_cons, List.not_mem_nil, or_false]
  exact or_assoc.symm
theorem get_kn {F G F3 : FM RV} {ρ : List SV} {Q : RV → List SV → Prop} (h : WO F ρ fun x ρ1 => ∃ an fn, x = .dat (knD an fn) ∧ WO G ρ1 fun y ρ2 => WO F3 ρ2 fun r ρ3 => ∃ w, view false ρ3 y = some (.str w) ∧ r = .new [] ∧ Q (.dat (.list ((ownN an fn w).map PyData.str))) ρ3) : WO (fGet2 F G F3) ρ Q :=
  wo_get2 (h.mono fun x ρ1 ⟨an, fn, e, h⟩ => ⟨_, e, h.mono fun y ρ2 h => h.mono fun r ρ3 ⟨w, e2, e1, q⟩ => by
    subst e1
    exact wo_toDatN ⟨_, _, _, e2, rfl, look_kn, q⟩⟩)
local macro_rules | `(tactic| tb_rel) => `(tactic| refine get_kn ?_)
section
variable {s n : Int} {an fn : List Str}
theorem e_law_is_row (d : PyData) : D_law_is_row [.dat d, .dat (.int s), .dat (.int n), .dat (knD an fn), .dat (.list (bareL2.map PyData.str))] = some (.dat (.bool (insD s n an fn d)), []) := by
  cases d with
  | tuple ds =>
    match ds with
    | [] =>
      refine WD.eq (wd_run' rfl rfl (by (first | top_name | fail)) ?_)
      (repeat' (first | tb_start | fail))
      all_goals exact ans_b rfl
    | [x] =>
      cases x with
      | str w =>
        have hb : opIn (.str w) (.list (bareL2.map PyData.str)) = some (.bool (inV (.str w) bareV)) := in_strs.trans (by rw [bare_eq])
        refine WD.eq (wd_run' rfl rfl (by (first | top_name | fail)) ?_)
        (repeat' (first | tb_start | fail))
        all_goals exact ans_b bare_eq
      | _ =>
        refine WD.eq (wd_run' rfl rfl (by (first | top_name | fail)) ?_)
        (repeat' (first | tb_start | fail))
        all_goals exact ans_b rfl
    | [x, g] =>
      cases x with
      | str w =>
        have h4 : opIn (.str w) (.tuple [.str "load", .str "store", .str "jump", .str "jumpif"]) = some (.bool (inV (.str w) [.str "load", .str "store"] || inV (.str w) [.str "jump", .str "jumpif"])) := congrArg (fun b => some (PyData.bool b)) in_4
        cases g with
        | str x =>
          have ha : opIn (.str x) (.list ((ownN an fn w).map PyData.str)) = some (.bool (nameIn an fn w (.str x))) := in_strs.trans (by rw [own_in])
          refine WD.eq (wd_run' rfl rfl (by (first | top_name | fail)) ?_)
          (repeat' (first | tb_start | fail))
          all_goals try (refine ⟨_, rfl, rfl, ?_⟩; (repeat' (first | tb_start | fail)))
          all_goals try (refine ⟨rfl, ?_⟩; (repeat' (first | tb_start | fail)))
          all_goals first
            | (refine ans_b ?_; (try dsimp only at *); simp_all [ins_2, nameIn, cntD]; done)
            | (exfalso; (try dsimp only at *); simp_all; done)
        | _ =>
          refine WD.eq (wd_run' rfl rfl (by (first | top_name | fail)) ?_)
          (repeat' (first | tb_start | fail))
          all_goals try (refine ⟨_, rfl, rfl, ?_⟩; (repeat' (first | tb_start | fail)))
          all_goals try (refine ⟨rfl, ?_⟩; (repeat' (first | tb_start | fail)))
          all_goals first
            | (refine ans_b ?_; (try dsimp only at *); simp_all [ins_2, nameIn, cntD]; done)
            | (exfalso; (try dsimp only at *); simp_all; done)
      | _ =>
        refine WD.eq (wd_run' rfl rfl (by (first | top_name | fail)) ?_)
        (repeat' (first | tb_start | fail))
        all_goals exact ans_b rfl
    | x :: y :: z :: r =>
      have hn : opNotIn (.int ((x :: y :: z :: r).length : Nat)) (.tuple [.int 1, .int 2]) = some (.bool true) := by
        refine congrArg (fun b => some (PyData.bool b)) (?_ : (!inV (.int ((x :: y :: z :: r).length : Nat)) [.int 1, .int 2]) = true)
        have h1 : ¬ (1 : Int) = (((x :: y :: z :: r).length : Nat) : Int) := by simp only [List.length_cons]; omega
        have h2 : ¬ (2 : Int) = (((x :: y :: z :: r).length : Nat) : Int) := by simp only [List.length_cons]; omega
        show (!((1 : Int) == (((x :: y :: z :: r).length : Nat) : Int) || ((2 : Int) == (((x :: y :: z :: r).length : Nat) : Int) || false))) = true
        rw [beq_eq_false_iff_ne.mpr h1, beq_eq_false_iff_ne.mpr h2]
        rfl
      refine WD.eq (wd_run' rfl rfl (by (first | top_name | fail)) ?_)
      (repeat' (first | tb_start | fail))
      all_goals first
        | exact ans_b ins_long.symm
        | (exfalso; simp_all; done)
        | fail
  | _ =>
    refine WD.eq (wd_run' rfl rfl (by (first | top_name | fail)) ?_)
    (repeat' (first | tb_start | fail))
    all_goals exact ans_b rfl
end

/-! The runner: more steps. -/
section
variable {F G : FM RV} {ρ : List SV} {D : EB} {Q : RV → List SV → Prop} {i j : Nat}
theorem wb_par2 (h : WO F ρ fun r ρ1 => WO G ρ1 fun s ρ2 => ∃ ρ3, ((noLst i ρ2 && noLst j ρ2 && decide (i ≠ j) && !isSlot r && !isSlot s) = true ∧ (putRV i r ρ2).bind (putRV j s) = some ρ3) ∧ ∃ ρ4, Nrm ρ3 ρ4 ∧ D.nx ρ4) : WB (fPar2 i j F G) ρ D := by
  obtain ⟨r, ρ1, e1, s, ρ2, e2, ρ3, ⟨c, e3⟩, ρ4, n, q⟩ := h
  have n : ρ3 = ρ4 := n
  subst n
  refine ⟨.nx ρ3, ?_, q⟩
  unfold fPar2
  rw [e1]
  dsimp only
  rw [e2]
  dsimp only
  rw [if_pos c, e3]
  rfl
theorem wo_app {ds0 : List PyData} (h0 : ρ[i]? = some (.own ds0)) (h : WO G ρ fun r ρ1 => WO (toDat r) ρ1 fun x ρ2 => ∃ ds ρ3, ρ2[i]? = some (.own ds) ∧ ds.length ≤ 4000000 ∧ Nrm (ρ2.set i (.own (ds ++ [x]))) ρ3 ∧ Q (.dat .none) ρ3) : WO (fMut gAppend (fName i) G) ρ Q := by
  obtain ⟨r, ρ1, e1, x, ρ2, e2, ds, ρ3, e3, hl, n, q⟩ := h
  have n : ρ2.set i (.own (ds ++ [x])) = ρ3 := n
  subst n
  refine ⟨.dat .none, _, ?_, q⟩
  have a1 : fName i ρ = some (.slot i, ρ) := by
    unfold fName
    rw [h0]
  unfold fMut
  rw [fbind_eq a1]
  have a2 : needL (.slot i) ρ = some ((), ρ) := by
    unfold needL lstOf
    dsimp only
    rw [h0]
    rfl
  rw [fbind_eq a2, fbind_eq e1, fbind_eq e2]
  have a3 : lstOf (.slot i) ρ2 = some (i, .own ds, ds) := by
    unfold lstOf
    dsimp only
    rw [e3]
    rfl
  rw [a3]
  show ((gAppend ds x).map _) = _
  unfold gAppend
  rw [if_pos hl]
  rfl
theorem putJd {x : PyData} {s : SV} {ρ3 : List SV} {Q : List SV → Prop} (h : ρ[i]? = some s) (hs : isPar s = false) (n : Nrm (ρ.set i (.d x)) ρ3) (q : Q ρ3) : ∃ ρ2, putRV i (.dat x) ρ = some ρ2 ∧ ∃ ρ3, Nrm ρ2 ρ3 ∧ Q ρ3 := by
  refine ⟨ρ.set i (.d x), ?_, ρ3, n, q⟩
  unfold putRV
  rw [h]
  cases s with
  | par _ => cases hs
  | _ => rfl
end
local macro_rules | `(tactic| tb_rel) => `(tactic| refine wb_par2 ?_)
local macro_rules | `(tactic| tb_rel) => `(tactic| with_unfolding_all (refine ⟨_, ⟨rfl, rfl⟩, _, by (first | top_name | fail), ?_⟩))
local macro_rules | `(tactic| tb_rel) => `(tactic| refine wo_app (by with_unfolding_all exact rfl) ?_)
local macro_rules | `(tactic| tb_rel) => `(tactic| with_unfolding_all (refine putJd rfl (by assumption) (by (first | top_name | fail)) ?_))

/-! k15, the plain law: the own look: arrays and functions. -/
local macro_rules | `(tactic| tb_rel) => `(tactic| refine WD.of (e_law_is_name _ (by assumption)) ?_)
local macro_rules | `(tactic| tb_rel) => `(tactic| with_unfolding_all (refine ⟨_, _, rfl, by decide, by (first | top_name | fail), ?_⟩))
theorem gNatB {ρ : List SV} {i : Nat} {s : SV} {x : PyData} (h : ρ[i]? = some s) (hs : isPar s = false) : gN' i (.dat x) ρ = some (ρ.set i (.d x)) := by
  unfold gN'
  rw [h]
  dsimp only
  rw [hs]
  rfl
theorem dat_getB {l : List PyData} {k : Nat} {d : IV} (h : (l.map IV.dat)[k]? = some d) : ∃ x, l[k]? = some x ∧ d = .dat x := by
  rw [List.getElem?_map] at h
  cases e : l[k]? with
  | none =>
    rw [e] at h
    cases h
  | some x =>
    rw [e] at h
    exact ⟨x, rfl, (Option.some.inj h).symm⟩
theorem take_all {f : PyData → Bool} {l : List PyData} {i : Nat} {d : PyData} (h : (l.take i).all f = true) (e : l[i]? = some d) (hd : f d = true) : (l.take (i + 1)).all f = true := by
  rw [List.take_add_one, e, List.all_append, h]
  show (true && (f d && true)) = true
  rw [hd]
  rfl
theorem no_all {f : PyData → Bool} {l : List PyData} {i : Nat} {d : PyData} (e : l[i]? = some d) (hd : f d = false) : l.all f = false := by
  refine Bool.eq_false_iff.mpr fun h => ?_
  rw [List.all_eq_true.mp h d (List.mem_of_getElem? e)] at hd
  cases hd
abbrev kwD : List PyData := kwL.map PyData.str
/-- while the arrays are looked at -/
def ArJ (thing : PyData) (as : List PyData) (i : Nat) (ρ : List SV) : Prop := ∃ s1 s2, (s1 = .own kwD ∨ s1 = .d (.list kwD)) ∧ isPar s2 = false ∧ (as.take i).all arrayD = true ∧ ρ = [.d thing, s1, s2]
def FnJ (thing : PyData) (as fs : List PyData) (i : Nat) (ρ : List SV) : Prop := ∃ s1 s2, (s1 = .own kwD ∨ s1 = .d (.list kwD)) ∧ isPar s2 = false ∧ as.all arrayD = true ∧ (fs.take i).all hdD = true ∧ ρ = [.d thing, s1, s2]
theorem arr_len {r : List PyData} (h : r.length ≠ 2) : arrayD (.tuple r) = false := by
  unfold arrayD
  split
  · rename_i e
    cases e
    exact absurd rfl h
  · rfl
theorem e_law_are_parts {as fs : List PyData} (ga : ∀ d ∈ as, Goo3 d) (gf : ∀ d ∈ fs, Goo3 d) : D_law_are_parts [.dat (.tuple [.tuple as, .tuple fs])] = some (.dat (.bool (as.all arrayD && fs.all hdD)), []) := by
  refine WD.eq (wd_run' rfl rfl (by (first | top_name | fail)) ?_)
  (repeat' (first | tb_start | fail))
  refine wb_for (wo_iter ?_)
  (repeat' (first | tb_start | fail))
  refine ⟨(fun _ z => nomatch z), as, rfl, ArJ (.tuple [.tuple as, .tuple fs]) as, ⟨_, _, .inl rfl, rfl, rfl, rfl⟩, ?_, ?_⟩
  · rintro i d ρ hi ⟨s1, s2, h1, h2, hall, rfl⟩
    obtain ⟨d, e, rfl⟩ := dat_getB hi
    have gd := ga d (List.mem_of_getElem? e)
    refine ⟨_, gNatB (i := 2) rfl h2, ?_⟩
    show WB _ [.d _, s1, .d d] _
    have no : arrayD d = false → RD.dat (.bool false) = RD.dat (.bool (as.all arrayD && fs.all hdD)) ∧ ([] : List (List PyData)) = [] := fun h => ans_b (by rw [no_all e h]; rfl)
    have yes : arrayD d = true → ArJ (.tuple [.tuple as, .tuple fs]) as (i + 1) [.d (.tuple [.tuple as, .tuple fs]), .d (.list kwD), .d d] := fun h => ⟨_, _, .inr rfl, rfl, take_all hall e h, rfl⟩
    cases d with
    | tuple ds =>
      by_cases hl : ds.length = 2
      · match ds, hl, gd with
        | [x, y], _, gd =>
          have ho := (gd.at (i := 0) rfl).ok
          have e2 : arrayD (.tuple [x, y]) = (nameD x && cntD 1 256 y) := rfl
          rw [e2] at no yes
          rcases h1 with rfl | rfl
          all_goals
            (repeat' (first | tb_start | fail))
            all_goals first
              | exact no (by clear no yes; (simp_all only [Bool.not_not, Bool.not_eq_true', Bool.not_eq_false', Bool.not_eq_true, Bool.not_eq_false, Bool.not_true, Bool.not_false, if_true, if_false, ite_true, ite_false, reduceIte, Bool.true_and, Bool.false_and, Bool.and_true, Bool.and_false, Bool.true_or, Bool.false_or, Bool.or_true, Bool.or_false, Bool.false_eq_true, reduceCtorEq, Bool.and_self]))
              | exact yes (by clear no yes; (simp_all only [Bool.not_not, Bool.not_eq_true', Bool.not_eq_false', Bool.not_eq_true, Bool.not_eq_false, Bool.not_true, Bool.not_false, if_true, if_false, ite_true, ite_false, reduceIte, Bool.true_and, Bool.false_and, Bool.and_true, Bool.and_false, Bool.true_or, Bool.false_or, Bool.or_true, Bool.or_false, Bool.false_eq_true, reduceCtorEq, Bool.and_self]))
      · have l : opNe (.int (ds.length : Nat)) (.int 2) = some (.bool true) := opNe_yes (by omega)
        rcases h1 with rfl | rfl
        all_goals
          (repeat' (first | tb_start | fail))
          all_goals exact no (arr_len hl)
    | _ =>
      rcases h1 with rfl | rfl
      all_goals
        (repeat' (first | tb_start | fail))
        all_goals exact no rfl
  · rintro ρ ⟨s1, s2, h1, h2, hall, rfl⟩
    rw [List.length_map, List.take_length] at hall
    rcases h1 with rfl | rfl
    all_goals
      (repeat' (first | tb_start | fail))
      refine wb_for (wo_iter ?_)
      (repeat' (first | tb_start | fail))
      refine ⟨(fun _ z => nomatch z), fs, rfl, FnJ (.tuple [.tuple as, .tuple fs]) as fs, ⟨_, _, by first | exact .inl rfl | exact .inr rfl, h2, hall, rfl, rfl⟩, ?_, ?_⟩
    all_goals try (
      rintro ρ ⟨s1, s2, h1, h2, _, hfl, rfl⟩
      rw [List.length_map, List.take_length] at hfl
      (repeat' (first | tb_start | fail))
      exact ans_b (by rw [hall, hfl]; rfl))
    all_goals
      rintro i d ρ hi ⟨s1, s2, h1, h2, _, hfl, rfl⟩
      obtain ⟨d, e, rfl⟩ := dat_getB hi
      have gd := gf d (List.mem_of_getElem? e)
      refine ⟨_, gNatB (i := 2) rfl h2, ?_⟩
      show WB _ [.d _, s1, .d d] _
      have no : hdD d = false → RD.dat (.bool false) = RD.dat (.bool (as.all arrayD && fs.all hdD)) ∧ ([] : List (List PyData)) = [] := fun h => ans_b (by rw [no_all e h, Bool.and_false])
      have yes : hdD d = true → FnJ (.tuple [.tuple as, .tuple fs]) as fs (i + 1) [.d (.tuple [.tuple as, .tuple fs]), .d (.list kwD), .d d] := fun h => ⟨_, _, .inr rfl, rfl, hall, take_all hfl e h, rfl⟩
      cases d with
      | tuple ds =>
        by_cases hl : ds.length = 4
        · match ds, hl, gd with
          | [n, p, s, b], _, gd =>
            have gn := (gd.at (i := 0) rfl).ok
            cases hp : isIntD p with
            | false =>
              have e2 := hd_p (a := n) (s := s) (b := b) hp
              have hc := int_cnt (lo := 0) (hi := 6) hp
              rcases h1 with rfl | rfl
              all_goals
                (repeat' (first | tb_start | fail))
                all_goals first
                  | exact no e2
                  | (exfalso; clear no yes; (simp_all only [Bool.not_not, Bool.not_eq_true', Bool.not_eq_false', Bool.not_eq_true, Bool.not_eq_false, Bool.not_true, Bool.not_false, if_true, if_false, ite_true, ite_false, reduceIte, Bool.true_and, Bool.false_and, Bool.and_true, Bool.and_false, Bool.true_or, Bool.false_or, Bool.or_true, Bool.or_false, Bool.false_eq_true, reduceCtorEq, Bool.and_self]); done)
            | true =>
              obtain ⟨p, rfl⟩ := isInt_of hp
              cases hs : isIntD s with
              | false =>
                have e2 := hd_s (a := n) (p := p) (b := b) hs
                have hc := int_cnt (lo := p) (hi := 200) hs
                rcases h1 with rfl | rfl
                all_goals
                  (repeat' (first | tb_start | fail))
                  all_goals first
                    | exact no e2
                    | (exfalso; clear no yes; (simp_all only [Bool.not_not, Bool.not_eq_true', Bool.not_eq_false', Bool.not_eq_true, Bool.not_eq_false, Bool.not_true, Bool.not_false, if_true, if_false, ite_true, ite_false, reduceIte, Bool.true_and, Bool.false_and, Bool.and_true, Bool.and_false, Bool.true_or, Bool.false_or, Bool.or_true, Bool.or_false, Bool.false_eq_true, reduceCtorEq, Bool.and_self]); done)
              | true =>
                obtain ⟨s, rfl⟩ := isInt_of hs
                cases hb : isTup b with
                | false =>
                  have e2 := hd_b (a := n) (p := p) (s := s) hb
                  rcases h1 with rfl | rfl
                  all_goals
                    (repeat' (first | tb_start | fail))
                    all_goals first
                      | exact no e2
                      | (exfalso; clear no yes; (simp_all only [Bool.not_not, Bool.not_eq_true', Bool.not_eq_false', Bool.not_eq_true, Bool.not_eq_false, Bool.not_true, Bool.not_false, if_true, if_false, ite_true, ite_false, reduceIte, Bool.true_and, Bool.false_and, Bool.and_true, Bool.and_false, Bool.true_or, Bool.false_or, Bool.or_true, Bool.or_false, Bool.false_eq_true, reduceCtorEq, Bool.and_self]); done)
                | true =>
                  obtain ⟨bs, rfl⟩ := isTup_of hb
                  have e2 := hd_4 (n := n) (p := p) (s := s) (bs := bs)
                  rw [e2] at no yes
                  rcases h1 with rfl | rfl
                  all_goals
                    (repeat' (first | tb_start | fail))
                    all_goals first
                      | exact no (by clear no yes; (simp_all only [Bool.not_not, Bool.not_eq_true', Bool.not_eq_false', Bool.not_eq_true, Bool.not_eq_false, Bool.not_true, Bool.not_false, if_true, if_false, ite_true, ite_false, reduceIte, Bool.true_and, Bool.false_and, Bool.and_true, Bool.and_false, Bool.true_or, Bool.false_or, Bool.or_true, Bool.or_false, Bool.false_eq_true, reduceCtorEq, Bool.and_self]))
                      | exact yes (by clear no yes; (simp_all only [Bool.not_not, Bool.not_eq_true', Bool.not_eq_false', Bool.not_eq_true, Bool.not_eq_false, Bool.not_true, Bool.not_false, if_true, if_false, ite_true, ite_false, reduceIte, Bool.true_and, Bool.false_and, Bool.and_true, Bool.and_false, Bool.true_or, Bool.false_or, Bool.or_true, Bool.or_false, Bool.false_eq_true, reduceCtorEq, Bool.and_self]))
        · have l : opNe (.int (ds.length : Nat)) (.int 4) = some (.bool true) := opNe_yes (by omega)
          rcases h1 with rfl | rfl
          all_goals
            (repeat' (first | tb_start | fail))
            all_goals exact no (hd_len hl)
      | _ =>
        rcases h1 with rfl | rfl
        all_goals
          (repeat' (first | tb_start | fail))
          all_goals exact no rfl

/-! k15, the plain law: the own look: names in turn, code. -/
theorem lay_name {x : Str} (h : nameS x = true) : PyData.strOk x = true := by
  unfold nameS at h
  simp only [Bool.and_eq_true] at h
  have ha := h.2.2.2
  have hb : ∀ c ∈ az9.cps.toList, c < 0x110000 := by decide +kernel
  show x.cps.all (· < 0x110000) = true
  rw [← Array.all_toList]
  refine List.all_eq_true.mpr fun c m => decide_eq_true (hb c ?_)
  exact of_decide_eq_true (List.all_eq_true.mp ha c m)
theorem lay_strs : ∀ {xs : List Str}, (∀ x ∈ xs, PyData.strOk x = true) → PyData.canLayAll0 (xs.map PyData.str) = true ∧ PyData.depthAll (xs.map PyData.str) = 0
  | [], _ => ⟨rfl, rfl⟩
  | x :: xs, h => by
    have h2 := lay_strs (xs := xs) fun x m => h x (List.mem_cons_of_mem _ m)
    refine ⟨?_, ?_⟩
    · show (PyData.strOk x && PyData.canLayAll0 (xs.map PyData.str)) = true
      rw [h x List.mem_cons_self, h2.1]
      rfl
    · show Nat.max 0 (PyData.depthAll (xs.map PyData.str)) = 0
      rw [h2.2]
      rfl
theorem shaped_strs {xs : List Str} (h : ∀ x ∈ xs, PyData.strOk x = true) : SeqAt.shaped (.list (xs.map PyData.str)) = true := by
  have h2 := lay_strs h
  show (PyData.canLayAll0 (xs.map PyData.str) && decide (PyData.depthAll (xs.map PyData.str) + 1 ≤ 64)) = true
  rw [h2.1, h2.2]
  rfl
theorem eqv_strs : ∀ xs ys : List Str, PyData.eqvAll (xs.map PyData.str) (ys.map PyData.str) = decide (xs = ys)
  | [], [] => rfl
  | [], y :: ys => rfl
  | x :: xs, [] => rfl
  | x :: xs, y :: ys => by
    show ((x == y) && PyData.eqvAll (xs.map PyData.str) (ys.map PyData.str)) = _
    rw [eqv_strs xs ys, Bool.eq_iff_iff]
    simp
theorem ne_strs {xs ys : List Str} (hx : ∀ x ∈ xs, PyData.strOk x = true) (hy : ∀ x ∈ ys, PyData.strOk x = true) : opNe (.list (xs.map PyData.str)) (.list (ys.map PyData.str)) = some (.bool (!decide (xs = ys))) := by
  show Option.map (fun b => PyData.bool (!b)) (if (SeqAt.shaped (.list (xs.map PyData.str)) && SeqAt.shaped (.list (ys.map PyData.str))) = true then some (PyData.eqv (.list (xs.map PyData.str)) (.list (ys.map PyData.str))) else none) = _
  rw [shaped_strs hx, shaped_strs hy, if_pos (by rfl)]
  show some (PyData.bool (!PyData.eqvAll (xs.map PyData.str) (ys.map PyData.str))) = _
  rw [eqv_strs]
theorem toStrs_mapB : ∀ xs : List Str, toStrs (xs.map PyData.str) = some xs
  | [] => rfl
  | x :: xs => by
    rw [List.map_cons]
    unfold toStrs
    rw [toStrs_mapB xs]
    rfl
theorem sort_set {xs : List Str} (h : xs.length < 64) : opSortSet [.list (xs.map PyData.str)] = some (.list ((srtS (ddS xs)).map PyData.str)) := by
  show ((toStrs (xs.map PyData.str)).bind fun xs => if xs.length < 64 then some (PyData.list ((srtS (ddS xs)).map PyData.str)) else none) = _
  rw [toStrs_mapB, Option.bind_some, if_pos h]
theorem asc_ofB {xs : List Str} (h : xs.Pairwise leS) (n : xs.Nodup) : ascS xs = true := by
  induction xs with
  | nil => rfl
  | cons x r ih =>
    cases r with
    | nil => rfl
    | cons y r =>
      have h1 := List.pairwise_cons.mp h
      have n1 := List.nodup_cons.mp n
      show (decide (x.cps.toList < y.cps.toList) && ascS (y :: r)) = true
      rw [ih h1.2 n1.2, Bool.and_true]
      refine decide_eq_true ?_
      have hxy := h1.1 y List.mem_cons_self
      rcases Decidable.em (x.cps.toList < y.cps.toList) with z | z
      · exact z
      · have e : x = y := leS_anti hxy z
        subst e
        exact absurd List.mem_cons_self n1.1
theorem asc_pw : ∀ {xs : List Str}, ascS xs = true → xs.Pairwise fun x y => x.cps.toList < y.cps.toList
  | [], _ => .nil
  | [x], _ => List.pairwise_singleton _ _
  | x :: y :: r, h => by
    have h := Bool.and_eq_true_iff.mp (show (decide (x.cps.toList < y.cps.toList) && ascS (y :: r)) = true from h)
    have h1 := of_decide_eq_true h.1
    have ih := asc_pw (xs := y :: r) h.2
    refine List.pairwise_cons.mpr ⟨fun z m => ?_, ih⟩
    rcases List.mem_cons.mp m with rfl | m
    · exact h1
    · exact List.lt_trans h1 ((List.pairwise_cons.mp ih).1 z m)
theorem dd_id : ∀ {xs : List Str}, xs.Nodup → ddS xs = xs
  | [], _ => rfl
  | x :: r, h => by
    have h := List.nodup_cons.mp h
    unfold ddS
    rw [if_neg h.1, dd_id h.2]
theorem asc_nd {xs : List Str} (h : xs.Pairwise fun x y => x.cps.toList < y.cps.toList) : xs.Nodup :=
  h.imp fun {a b} l e => by
    subst e
    exact List.lt_irrefl _ l
/-- the names are in turn exactly if sorting their set changes nothing -/
theorem asc_sort {xs : List Str} : decide (xs = srtS (ddS xs)) = ascS xs := by
  cases e : ascS xs with
  | true =>
    have pw := asc_pw e
    have nd := asc_nd pw
    refine decide_eq_true ?_
    rw [dd_id nd]
    refine sorted_unique ?_ (srt_sorted xs) (srt_perm xs).symm
    exact pw.imp fun {a b} l => by
      intro z
      exact List.lt_irrefl _ (List.lt_trans l z)
  | false =>
    refine decide_eq_false fun z => ?_
    have nd : (srtS (ddS xs)).Nodup := (srt_perm (ddS xs)).nodup_iff.mpr (dd_nd xs)
    have := asc_ofB (srt_sorted (ddS xs)) nd
    rw [← z, e] at this
    cases this
theorem srt_ok {xs : List Str} (h : ∀ x ∈ xs, PyData.strOk x = true) : ∀ x ∈ srtS (ddS xs), PyData.strOk x = true := fun x m => h x (dd_mem.mp ((srt_perm (ddS xs)).mem_iff.mp m))

/-! k15, the plain law: the own look: is_plan is codeD. -/
def strsOf : PyData → List Str
  | .list l => l.map fun d => match d with
    | .str x => x
    | _ => ""
  | _ => []
def ivN : IV → Bool
  | .dat d => ascS (strsOf d)
  | _ => false
theorem strsOf_map {xs : List Str} : strsOf (.list (xs.map PyData.str)) = xs := by
  show (xs.map PyData.str).map _ = xs
  rw [List.map_map]
  exact List.map_id' xs
/-- while the instructions are looked at -/
abbrev bareD2 : List PyData := bareL2.map PyData.str
def OwnR (v : PyData) (an fn : List Str) (s3 s7 s8 s9 s10 s5 : SV) : List SV := [.d v, .un, .d (.list [.list (an.map PyData.str), .list (fn.map PyData.str)]), s3, .un, s5, .d (knD an fn), s7, s8, s9, s10]
def OwnJ (v : PyData) (an fn : List Str) (fs : List PyData) (i : Nat) (ρ : List SV) : Prop := ∃ s5 s7 s8 s9 s10, (s5 = .own bareD2 ∨ s5 = .d (.list bareD2)) ∧ isPar s7 = false ∧ isPar s8 = false ∧ isPar s9 = false ∧ isPar s10 = false ∧ (fs.take i).all (rowsOk an fn) = true ∧ ρ = OwnR v an fn .un s7 s8 s9 s10 s5
theorem gn710 {a0 a1 a2 a3 a4 a5 a6 s7 s8 s9 s10 : SV} {x y z w : PyData} (h3 : isPar s7 = false) (h4 : isPar s8 = false) (h5 : isPar s9 = false) (h6 : isPar s10 = false) : (gTup' 4 (gCons' (gN' 7) (gCons' (gN' 8) (gCons' (gN' 9) (gCons' (gN' 10) gNil'))))) (.dat (.tuple [x, y, z, w])) [a0, a1, a2, a3, a4, a5, a6, s7, s8, s9, s10] = some [a0, a1, a2, a3, a4, a5, a6, .d x, .d y, .d z, .d w] := by
  show (gN' 7 (.dat x) _).bind _ = _
  rw [gNatB (i := 7) (s := s7) rfl h3]
  show (gN' 8 (.dat y) _).bind _ = _
  rw [gNatB (i := 8) (s := s8) rfl h4]
  show (gN' 9 (.dat z) _).bind _ = _
  rw [gNatB (i := 9) (s := s9) rfl h5]
  show (gN' 10 (.dat w) _).bind _ = _
  rw [gNatB (i := 10) (s := s10) rfl h6]
  rfl
/-- a part's name, wherever it is known to be one -/
theorem hd_key {d : PyData} (h : hdD d = true) : nameS (keyD d) = true ∧ ∃ r, d = .tuple (.str (keyD d) :: r) := by
  obtain ⟨x, p, s, bs, rfl, hx, _⟩ := hd_of h
  exact ⟨hx, _, rfl⟩
theorem arr_key {d : PyData} (h : arrayD d = true) : nameS (keyD d) = true ∧ ∃ r, d = .tuple (.str (keyD d) :: r) := by
  obtain ⟨x, i, rfl⟩ := array_of h
  have h1 := Bool.and_eq_true_iff.mp (show (nameD (.str x) && cntD 1 256 (.int i)) = true from h)
  exact ⟨h1.1, _, rfl⟩
theorem e_law_is_plan2 {as fs : List PyData} (g : Goo3 (.tuple [.tuple as, .tuple fs])) : D_law_is_plan [.dat (.tuple [.tuple as, .tuple fs])] = some (.dat (.bool (codeD (.tuple [.tuple as, .tuple fs]))), []) := by
  have ga := g.at (i := 0) rfl
  have gf := g.at (i := 1) rfl
  have hp := e_law_are_parts (as := as) (fs := fs) (fun d m => ga.mem m) (fun d m => gf.mem m)
  have e2 : codeD (.tuple [.tuple as, .tuple fs]) = ((decide ((as.length : Int) ≤ 8) && (as.all arrayD && ascS (as.map keyD))) && ((decide ((1 : Int) ≤ fs.length) && decide ((fs.length : Int) ≤ 12)) && (fs.all hdD && (ascS (fs.map keyD) && fs.all (rowsOk (as.map keyD) (fs.map keyD)))))) := rfl
  refine WD.eq (wd_run' rfl rfl (by (first | top_name | fail)) ?_)
  (repeat' (first | tb_start | fail))
  all_goals try (
    refine ans_b ?_
    rw [e2]
    first
      | (rw [show decide ((1 : Int) ≤ fs.length) = false from ‹_›]; simp; done)
      | (rw [show decide ((as.length : Int) ≤ 8) = false from dec_gt' ‹_›]; rfl)
      | (rw [show decide ((fs.length : Int) ≤ 12) = false from nots ‹_›]; simp; done)
      | (have hn : (as.all arrayD && fs.all hdD) = false := nots ‹_›
         rcases Bool.and_eq_false_iff.mp hn with h | h <;> rw [h] <;> simp; done))
  have hall : (as.all arrayD && fs.all hdD) = true := yess ‹_›
  have h8 : decide ((as.length : Int) ≤ 8) = true := dec_gt ‹_›
  have h1 : decide ((1 : Int) ≤ fs.length) = true := ‹_›
  have h12 : decide ((fs.length : Int) ≤ 12) = true := yess ‹_›
  have haa := (Bool.and_eq_true_iff.mp hall).1
  have hff := (Bool.and_eq_true_iff.mp hall).2
  have ka : ∀ d ∈ as, nameS (keyD d) = true ∧ ∃ r, d = .tuple (.str (keyD d) :: r) := fun d m => arr_key (List.all_eq_true.mp haa d m)
  have kf : ∀ d ∈ fs, nameS (keyD d) = true ∧ ∃ r, d = .tuple (.str (keyD d) :: r) := fun d m => hd_key (List.all_eq_true.mp hff d m)
  have l8 : as.length ≤ 8 := by have := of_decide_eq_true h8; omega
  have l12 : fs.length ≤ 12 := by have := of_decide_eq_true h12; omega
  generalize han : as.map keyD = an at *
  generalize hfn : fs.map keyD = fn at *
  have oka : ∀ x ∈ an, PyData.strOk x = true := fun x m => by
    rw [← han] at m
    obtain ⟨d, md, rfl⟩ := List.mem_map.mp m
    exact lay_name (ka d md).1
  have okf : ∀ x ∈ fn, PyData.strOk x = true := fun x m => by
    rw [← hfn] at m
    obtain ⟨d, md, rfl⟩ := List.mem_map.mp m
    exact lay_name (kf d md).1
  have la : an.length < 64 := by rw [← han, List.length_map]; omega
  have lf : fn.length < 64 := by rw [← hfn, List.length_map]; omega
  show WO _ [.d (.tuple [.tuple as, .tuple fs]), .un, .un, .un, .un, .un, .un, .un, .un, .un, .un] _
  have inner : ∀ ds : List PyData, ds.length ≤ 4000000 → (∀ d ∈ ds, nameS (keyD d) = true ∧ ∃ r, d = .tuple (.str (keyD d) :: r)) → WO (fDat (fLc (fIter (fName 3)) (gN' 1) (fpure true) (fDat (fIx opIx (fName 1) (fC (.int 0)))) [1])) [.d (.tuple [.tuple as, .tuple fs]), .un, .un, .d (.tuple ds), .un, .un, .un, .un, .un, .un, .un] fun r ρ4 => r = .dat (.list ((ds.map keyD).map PyData.str)) ∧ wipeR ρ4 [3] = [.d (.tuple [.tuple as, .tuple fs]), .un, .un, .un, .un, .un, .un, .un, .un, .un, .un] := fun ds hl hk => by
    refine wo_dat ?_
    refine wo_mapD (fun d => .str (keyD d)) rfl rfl hl rfl (by (first | top_name | fail)) (fun d m => ?_) (by (first | top_name | fail)) ?_
    · obtain ⟨_, r, e⟩ := hk d m
      obtain ⟨k, e⟩ : ∃ k, d = .tuple (.str k :: r) := ⟨_, e⟩
      subst e
      have hx := ix_hd (x := .str k) (r := r)
      refine ⟨_, rfl, ?_⟩
      (repeat' (first | tb_start | fail))
      exact ⟨rfl, rfl⟩
    · refine wo_toDatN ?_
      refine ⟨?_, rfl⟩
      rw [List.map_map]
      rfl
  refine wo_mapD (fun d => .list ((namesD d).map PyData.str)) rfl rfl (by show 2 ≤ _; omega) rfl (by (first | top_name | fail)) (fun d m => ?_) (by (first | top_name | fail)) ?_
  · rcases List.mem_cons.mp m with rfl | m
    · exact ⟨_, rfl, inner as ga.len ka⟩
    · rw [List.mem_singleton.mp m]
      exact ⟨_, rfl, inner fs gf.len kf⟩
  have el : ([PyData.tuple as, .tuple fs].map fun d => PyData.list ((namesD d).map PyData.str)) = [.list (an.map PyData.str), .list (fn.map PyData.str)] := by
    rw [← han, ← hfn]
    rfl
  rw [el]
  have na := ne_strs oka (srt_ok oka)
  have nf := ne_strs okf (srt_ok okf)
  have sa := sort_set la
  have sf := sort_set lf
  rw [asc_sort] at na nf
  refine ⟨_, rfl, _, by (first | top_name | fail), ?_⟩
  refine wb_seq (wb_if ?_)
  refine wt_tru ?_
  refine wo_call (wo_cons (wo_map (fun d => .bool (!(ivN d))) (wo_iter (wo_name rfl ⟨_, _, rfl, (fun _ z => nomatch z), _, rfl, rfl, by show 2 ≤ _; omega, [.d (.tuple [.tuple as, .tuple fs]), .un, .d (.list [.list (an.map PyData.str), .list (fn.map PyData.str)]), .un, .un, .un, .un, .un, .un, .un, .un], by (first | top_name | fail), fun d m => ?_, _, nrm_id, ?_⟩))))
  · have step : ∀ xs : List Str, opNe (.list (xs.map PyData.str)) (.list ((srtS (ddS xs)).map PyData.str)) = some (.bool (!ascS xs)) → opSortSet [.list (xs.map PyData.str)] = some (.list ((srtS (ddS xs)).map PyData.str)) → LcStep (gN' 4) (fpure true) (fDat (fOp2 false opNe (fName 4) (fCall false opSortSet (fCons (fName 4) fNil)))) [4] (.dat (.list (xs.map PyData.str))) [.d (.tuple [.tuple as, .tuple fs]), .un, .d (.list [.list (an.map PyData.str), .list (fn.map PyData.str)]), .un, .un, .un, .un, .un, .un, .un, .un] (fun x ρ' => ρ' = [.d (.tuple [.tuple as, .tuple fs]), .un, .d (.list [.list (an.map PyData.str), .list (fn.map PyData.str)]), .un, .un, .un, .un, .un, .un, .un, .un] ∧ x = .bool (!ivN (.dat (.list (xs.map PyData.str))))) (fun _ => False) := fun xs h1 h2 => by
      refine ⟨_, rfl, ?_⟩
      (repeat' (first | tb_start | fail))
      refine ⟨rfl, ?_⟩
      show _ = PyData.bool (!ascS (strsOf (.list (xs.map PyData.str))))
      rw [strsOf_map]
    rcases List.mem_cons.mp m with rfl | m
    · exact step an na sa
    · rw [List.mem_singleton.mp m]
      exact step fn nf sf
  have eany : opAny [.list ([IV.dat (.list (an.map PyData.str)), .dat (.list (fn.map PyData.str))].map fun d => PyData.bool (!ivN d))] = some (.bool (!ascS an || !ascS fn)) := by
    have e1 : ivN (.dat (.list (an.map PyData.str))) = ascS an := congrArg ascS strsOf_map
    have e2 : ivN (.dat (.list (fn.map PyData.str))) = ascS fn := congrArg ascS strsOf_map
    rw [List.map_cons, List.map_cons, List.map_nil, e1, e2]
    show some (PyData.bool ([!ascS an, !ascS fn].any id)) = _
    simp
  refine wo_nil ⟨_, _, rfl, eany, ?_⟩
  refine ⟨_, _, rfl, rfl, ?_⟩
  (repeat' (first | tb_start | fail))
  · refine ans_b ?_
    rw [e2]
    rcases Bool.or_eq_true_iff.mp (show (!ascS an || !ascS fn) = true from ‹_›) with h | h
    · rw [nots h]
      simp
    · rw [nots h]
      simp
  clear inner el eany na nf sa sf
  have ea : ascS an = true := by
    have h : (!ascS an || !ascS fn) = false := ‹_›
    exact yess (Bool.or_eq_false_iff.mp h).1
  have ef : ascS fn = true := by
    have h : (!ascS an || !ascS fn) = false := ‹_›
    exact yess (Bool.or_eq_false_iff.mp h).2
  have e3 : codeD (.tuple [.tuple as, .tuple fs]) = fs.all (rowsOk an fn) := by
    rw [e2, h8, haa, ea, h1, h12, hff, ef]
    rfl
  refine wb_for (wo_iter ?_)
  (repeat' (first | tb_start | fail))
  refine ⟨(fun _ z => nomatch z), fs, rfl, OwnJ (.tuple [.tuple as, .tuple fs]) an fn fs, ⟨_, _, _, _, _, .inl rfl, rfl, rfl, rfl, rfl, rfl, rfl⟩, ?_, ?_⟩
  · rintro i d ρ hi ⟨s5, s7, s8, s9, s10, h5, h7, h8', h9, h10, hall, rfl⟩
    obtain ⟨d, e, rfl⟩ := dat_getB hi
    obtain ⟨x, p, s, rows, rfl, _⟩ := hd_of (List.all_eq_true.mp hff d (List.mem_of_getElem? e))
    have gr := (gf.mem (List.mem_of_getElem? e)).at (i := 3) rfl
    refine ⟨_, gn710 h7 h8' h9 h10, ?_⟩
    have hop : opAll [.list (rows.map fun e => PyData.bool (insD s rows.length an fn e))] = some (.bool (rows.all (insD s rows.length an fn))) := op_all_map
    refine wb_if (wt_not (wt_tru (wo_call (wo_cons (wo_lcI ?_)))))
    refine wo_iterD (wo_name rfl ⟨_, rows, rfl, rfl, rfl, by rw [List.length_map]; exact gr.len, fun k acc ρ => ∃ s5, (s5 = .own bareD2 ∨ s5 = .d (.list bareD2)) ∧ acc = (rows.take k).map (fun e => PyData.bool (insD s rows.length an fn e)) ∧ ρ = OwnR (.tuple [.tuple as, .tuple fs]) an fn .un (.d (.str x)) (.d (.int p)) (.d (.int s)) (.d (.tuple rows)) s5, ⟨s5, h5, rfl, rfl⟩, ?_, ?_⟩)
    · rintro k d acc ρ hk ⟨s5, h5, rfl, rfl⟩
      obtain ⟨d, ed, rfl⟩ := dat_getB hk
      have hrow := e_law_is_row (s := s) (n := rows.length) (an := an) (fn := fn) d
      have tk : (rows.take (k + 1)).map (fun e => PyData.bool (insD s rows.length an fn e)) = (rows.take k).map (fun e => PyData.bool (insD s rows.length an fn e)) ++ [.bool (insD s rows.length an fn d)] := by
        rw [List.take_add_one, ed, List.map_append]
        rfl
      refine ⟨_, rfl, ?_⟩
      rcases h5 with rfl | rfl
      all_goals
        (repeat' (first | tb_start | fail))
        exact ⟨_, .inr rfl, tk.symm, rfl⟩
    · rintro out ρE ⟨s5, h5, rfl, rfl⟩
      rw [List.length_map, List.take_length]
      refine wo_nil ⟨_, _, rfl, hop, ?_⟩
      have er : rowsOk an fn (.tuple [.str x, .int p, .int s, .tuple rows]) = rows.all (insD s rows.length an fn) := rfl
      refine ⟨_, _, rfl, rfl, ?_⟩
      rcases h5 with rfl | rfl
      all_goals
        refine ⟨fun hn => ?_, fun hn => ?_⟩
        · (repeat' (first | tb_start | fail))
          exact ans_b (by rw [e3, no_all e (er.trans (nots hn))])
        · refine wb_skip ?_
          exact ⟨_, _, _, _, _, by first | exact .inl rfl | exact .inr rfl, rfl, rfl, rfl, rfl, take_all hall e (er.trans (yess hn)), rfl⟩
  · rintro ρ ⟨s5, s7, s8, s9, s10, h5, h7, h8', h9, h10, hall, rfl⟩
    rw [List.length_map, List.take_length] at hall
    (repeat' (first | tb_start | fail))
    exact ans_b (by rw [e3, hall])
theorem code_na {x y : PyData} (h : isTup x = false) : codeD (.tuple [x, y]) = false := by
  cases hy : isTup y with
  | false => exact code_nt hy
  | true =>
    obtain ⟨fs, rfl⟩ := isTup_of hy
    rw [code_2]
    cases x with
    | tuple c => cases h
    | _ => rfl
theorem e_law_is_plan (d : PyData) (g : Goo3 d) : D_law_is_plan [.dat d] = some (.dat (.bool (codeD d)), []) := by
  cases d with
  | tuple ds =>
    by_cases hl : ds.length = 2
    · match ds, hl, g with
      | [a, b], _, g =>
        cases ha : isTup a with
        | true =>
          obtain ⟨as, rfl⟩ := isTup_of ha
          cases hb : isTup b with
          | true =>
            obtain ⟨fs, rfl⟩ := isTup_of hb
            exact e_law_is_plan2 g
          | false =>
            have e := code_nt (x := .tuple as) hb
            cases b with
            | tuple bs => cases hb
            | _ =>
              refine WD.eq (wd_run' rfl rfl (by (first | top_name | fail)) ?_)
              (repeat' (first | tb_start | fail))
              all_goals first | exact ans_b e.symm | (first | exact ans_b rfl | ((try dsimp only); refine ans_b ?_; (simp_all only [Bool.not_not, List.all_cons, List.all_nil, id, Bool.not_eq_true', Bool.not_eq_false', Bool.not_eq_true, Bool.not_eq_false, Bool.not_true, Bool.not_false, if_true, if_false, ite_true, ite_false, reduceIte, Bool.true_and, Bool.false_and, Bool.and_true, Bool.and_false, Bool.true_or, Bool.false_or, Bool.or_true, Bool.or_false, Bool.false_eq_true, reduceCtorEq, Bool.and_self]); done) | (exfalso; (simp_all only [Bool.not_not, Bool.not_eq_true', Bool.not_eq_false', Bool.not_eq_true, Bool.not_eq_false, Bool.not_true, Bool.not_false, if_true, if_false, ite_true, ite_false, reduceIte, Bool.true_and, Bool.false_and, Bool.and_true, Bool.and_false, Bool.true_or, Bool.false_or, Bool.or_true, Bool.or_false, Bool.false_eq_true, reduceCtorEq, Bool.and_self]); done) | skip)
        | false =>
          have e := code_na (y := b) ha
          cases a with
          | tuple bs => cases ha
          | _ =>
            refine WD.eq (wd_run' rfl rfl (by (first | top_name | fail)) ?_)
            (repeat' (first | tb_start | fail))
            all_goals first | exact ans_b e.symm | (first | exact ans_b rfl | ((try dsimp only); refine ans_b ?_; (simp_all only [Bool.not_not, List.all_cons, List.all_nil, id, Bool.not_eq_true', Bool.not_eq_false', Bool.not_eq_true, Bool.not_eq_false, Bool.not_true, Bool.not_false, if_true, if_false, ite_true, ite_false, reduceIte, Bool.true_and, Bool.false_and, Bool.and_true, Bool.and_false, Bool.true_or, Bool.false_or, Bool.or_true, Bool.or_false, Bool.false_eq_true, reduceCtorEq, Bool.and_self]); done) | (exfalso; (simp_all only [Bool.not_not, Bool.not_eq_true', Bool.not_eq_false', Bool.not_eq_true, Bool.not_eq_false, Bool.not_true, Bool.not_false, if_true, if_false, ite_true, ite_false, reduceIte, Bool.true_and, Bool.false_and, Bool.and_true, Bool.and_false, Bool.true_or, Bool.false_or, Bool.or_true, Bool.or_false, Bool.false_eq_true, reduceCtorEq, Bool.and_self]); done) | skip)
    · have l : opNe (.int (ds.length : Nat)) (.int 2) = some (.bool true) := opNe_yes (by omega)
      have e := code_no hl
      refine WD.eq (wd_run' rfl rfl (by (first | top_name | fail)) ?_)
      (repeat' (first | tb_start | fail))
      all_goals first | exact ans_b e.symm | (first | exact ans_b rfl | ((try dsimp only); refine ans_b ?_; (simp_all only [Bool.not_not, List.all_cons, List.all_nil, id, Bool.not_eq_true', Bool.not_eq_false', Bool.not_eq_true, Bool.not_eq_false, Bool.not_true, Bool.not_false, if_true, if_false, ite_true, ite_false, reduceIte, Bool.true_and, Bool.false_and, Bool.and_true, Bool.and_false, Bool.true_or, Bool.false_or, Bool.or_true, Bool.or_false, Bool.false_eq_true, reduceCtorEq, Bool.and_self]); done) | (exfalso; (simp_all only [Bool.not_not, Bool.not_eq_true', Bool.not_eq_false', Bool.not_eq_true, Bool.not_eq_false, Bool.not_true, Bool.not_false, if_true, if_false, ite_true, ite_false, reduceIte, Bool.true_and, Bool.false_and, Bool.and_true, Bool.and_false, Bool.true_or, Bool.false_or, Bool.or_true, Bool.or_false, Bool.false_eq_true, reduceCtorEq, Bool.and_self]); done) | skip)
  | _ =>
    refine WD.eq (wd_run' rfl rfl (by (first | top_name | fail)) ?_)
    (repeat' (first | tb_start | fail))
    all_goals exact ans_b rfl
local macro_rules | `(tactic| tb_rel) => `(tactic| refine WD.of (e_law_is_plan _ (by assumption)) ?_)

/-! k16, the plain law, part G: draws, titles, instructions that are drawn. -/
local macro_rules | `(tactic| top_raise) => `(tactic| first
  | omega
  | (simp only [decide_eq_true_eq, decide_eq_false_iff_not, Bool.not_eq_true', Bool.not_eq_false', Int.not_lt, Int.not_le, PyData.bool.injEq, V.int.injEq] at *; omega)
  | (split <;> omega)
  | fail)
def PoolL (p : List PyData) : Prop := ∃ s d n : Int, p = [.int s, .int d, .int n] ∧ 0 ≤ s ∧ s < 2147483269 ∧ 0 ≤ d
def Drawn (m : Int) (r : RD) (os : List (List PyData)) : Prop := ∃ (k : Int) (p : List PyData), r = .dat (.int k) ∧ os = [p] ∧ PoolL p ∧ 0 ≤ k ∧ k < m
theorem e_law_draw {p : List PyData} {m : Int} (h : PoolL p) (h0 : 0 < m) (h1 : m < 2 ^ 200) : WD D_law_draw [.io p, .dat (.int m)] (Drawn m) := by
  obtain ⟨s, d, n, rfl, hs, hs2, hd⟩ := h
  have cm : ∀ j : Int, CMul s j := fun j => .inl ⟨by omega, by omega⟩
  refine wd_run' rfl rfl (by (first | top_name | fail)) ?_
  (repeat' (first | tb_start | fail))
  all_goals first
    | exact ⟨⟨_, _, _, rfl, Int.emod_nonneg _ (by decide), Int.emod_lt_of_pos _ (by decide), Int.ediv_nonneg hd (by omega)⟩, Int.emod_nonneg _ (by omega), Int.emod_lt_of_pos _ (by omega)⟩
    | exact ⟨⟨_, _, _, rfl, Int.emod_nonneg _ (by decide), Int.emod_lt_of_pos _ (by decide), hd⟩, Int.emod_nonneg _ (by omega), Int.emod_lt_of_pos _ (by omega)⟩
/-- items told by a property -/
theorem ix_use {P : PyData → Prop} {x y : RV} {ρ : List SV} {ds : List PyData} {k : Int} {Q : PyData → Prop} (hx : view false ρ x = some (.list ds)) (hy : view false ρ y = some (.int k)) (h : ∀ d ∈ ds, P d) (h0 : 0 ≤ k) (h1 : k < ds.length)
    (q : ∀ d, P d → Q d) : ∃ dx dy z, view false ρ x = some dx ∧ view false ρ y = some dy ∧ opIx dx dy = some z ∧ Q z := by
  obtain ⟨j, rfl⟩ := Int.eq_ofNat_of_zero_le h0
  have hj : j < ds.length := by omega
  exact ⟨_, _, ds[j], hx, hy, atI_nat (j := j) (List.getElem?_eq_getElem hj), q _ (h _ (List.getElem_mem hj))⟩
theorem int_fit {j : Int} {m : Nat} (h : -1099511627776 < j) (h2 : j < 1099511627776) : Fit 42 m (.int j) := Fit.int' (by omega)
theorem fit1 {a : PyData} {n1 m : Nat} (h1 : Fit n1 m a) : Fit (n1 + 6) (m + 1) (.tuple [a]) := (Fit.tup' (FitAll.cons' h1 FitAll.nil')).mono (by omega) (by omega)
theorem fit2 {a b : PyData} {n1 n2 m : Nat} (h1 : Fit n1 m a) (h2 : Fit n2 m b) : Fit (n1 + n2 + 8) (m + 1) (.tuple [a, b]) := (Fit.tup' (FitAll.cons' h1 (FitAll.cons' h2 FitAll.nil'))).mono (by omega) (by omega)
theorem fit4 {a b c d : PyData} {n1 n2 n3 n4 m : Nat} (h1 : Fit n1 m a) (h2 : Fit n2 m b) (h3 : Fit n3 m c) (h4 : Fit n4 m d) : Fit (n1 + n2 + n3 + n4 + 12) (m + 1) (.tuple [a, b, c, d]) := (Fit.tup' (FitAll.cons' h1 (FitAll.cons' h2 (FitAll.cons' h3 (FitAll.cons' h4 FitAll.nil'))))).mono (by omega) (by omega)
local macro_rules | `(tactic| top_raise0) => `(tactic| exact Fit.str (n := 30) ⟨by decide +kernel, by decide +kernel⟩)
theorem draw_then {p : List PyData} {m : Int} {Q : RD → List (List PyData) → Prop} (h : PoolL p) (h0 : 0 < m) (h1 : m < 2 ^ 200) (q : ∀ k p, PoolL p → 0 ≤ k → k < m → Q (.dat (.int k)) [p]) : WD D_law_draw [.io p, .dat (.int m)] Q :=
  (e_law_draw h h0 h1).mono fun r os ⟨k, p, e1, e2, hp, h0, h1⟩ => by
    subst e1 e2
    exact q k p hp h0 h1
theorem outs_par0 {x p : List PyData} {l : List SV} {Q : List SV → Prop} (q : Q (.par p :: l)) : ∃ ρ', setOuts (.par x :: l) [0] [p] = some ρ' ∧ Q ρ' := ⟨_, rfl, q⟩
local macro_rules | `(tactic| tb_rel) => `(tactic| (refine draw_then (by assumption) (by top_raise) (by top_raise) fun k p hp h0 h1 => ?_; (with_unfolding_all (first | refine outs_par0 ?_ | skip))))
/-- a word -/
def WordB (d : PyData) : Prop := ∃ j : Int, d = .int j ∧ -2147483648 ≤ j ∧ j ≤ 2147483647
theorem e_law_figure {p : List PyData} (hp : PoolL p) : WD D_law_figure [.io p] fun r os => ∃ (j : Int) (p : List PyData), r = .dat (.int j) ∧ os = [p] ∧ PoolL p ∧ -2147483648 ≤ j ∧ j ≤ 2147483647 := by
  refine wd_run' rfl rfl (by (first | top_name | fail)) ?_
  (repeat' (first | tb_start | fail))
  refine ix_use (P := WordB) rfl rfl ?_ (by assumption) (by assumption) ?_
  · simp only [List.cons_append, List.nil_append, List.forall_mem_cons]
    refine ⟨⟨_, rfl, by omega, by omega⟩, ⟨_, rfl, by omega, by omega⟩, ⟨_, rfl, by omega, by omega⟩, ⟨_, rfl, by omega, by omega⟩, ⟨_, rfl, by omega, by omega⟩, ⟨_, rfl, by omega, by omega⟩, ⟨_, rfl, by omega, by omega⟩, ⟨_, rfl, by omega, by omega⟩, ⟨_, rfl, by omega, by omega⟩, ?_⟩
    intro d m
    cases m
  · rintro _ ⟨j, rfl, h1, h2⟩
    (repeat' (first | tb_start | fail))
    exact ⟨by assumption, h1, h2⟩
theorem figure_then {p : List PyData} {Q : RD → List (List PyData) → Prop} (h : PoolL p) (q : ∀ j p, PoolL p → -2147483648 ≤ j → j ≤ 2147483647 → Q (.dat (.int j)) [p]) : WD D_law_figure [.io p] Q :=
  (e_law_figure h).mono fun r os ⟨k, p, e1, e2, hp, h0, h1⟩ => by
    subst e1 e2
    exact q k p hp h0 h1
local macro_rules | `(tactic| tb_rel) => `(tactic| (refine figure_then (by assumption) fun k p hp h0 h1 => ?_; (with_unfolding_all (first | refine outs_par0 ?_ | skip))))
/-- a comprehension whose turns draw from a pool: P what has been found -/
theorem wo_lcP {G : FG} {T : FM Bool} {E : FM RV} {vs : List Nat} {I : FM (List IV)} {ρ : List SV} {Q : RV → List SV → Prop} (P : Nat → List PyData → Prop) (h : WO I ρ fun is ρ1 => ∃ (p : List PyData) (l : List SV), freeOf ρ1 vs = true ∧ is.length ≤ 4000000 ∧ Nrm (wipeR ρ1 vs) (.par p :: l) ∧ PoolL p ∧
    (∀ i d p acc, is[i]? = some d → PoolL p → P i acc → LcStep G T E vs d (.par p :: l) (fun x ρ' => ∃ p', PoolL p' ∧ P (i + 1) (acc ++ [x]) ∧ ρ' = .par p' :: l) (fun _ => False)) ∧ P 0 [] ∧
    ∀ out p, PoolL p → P is.length out → ∃ ρ2, Nrm (restR ρ1 (wipeR (.par p :: l) vs) vs) ρ2 ∧ Q (.new out) ρ2) : WO (fLc I G T E vs) ρ Q :=
  wo_lcI (h.mono fun is ρ1 ⟨p, l, a1, a2, a3, a4, a5, a6, a7⟩ => ⟨a1, a2, fun i acc ρ => ∃ p, PoolL p ∧ P i acc ∧ ρ = .par p :: l, ⟨p, a4, a6, a3⟩, fun i d acc ρ e ⟨p, hp, hP, er⟩ => by
    subst er
    obtain ⟨ρ2, e2, b, ρ3, e3, hy, hz⟩ := a5 i d p acc e hp hP
    exact ⟨ρ2, e2, b, ρ3, e3, hy, fun hb => (hz hb).elim⟩, fun out ρE ⟨p, hp, hP, er⟩ => by
    subst er
    obtain ⟨ρ2, n, q⟩ := a7 out p hp hP
    have n : restR ρ1 (wipeR (.par p :: l) vs) vs = ρ2 := n
    rw [n]
    exact q⟩)
theorem rng_get {n i : Nat} {d : IV} (h : (rangeIV 0 n)[i]? = some d) : i < n ∧ d = .dat (.int (i : Int)) := by
  unfold rangeIV at h
  rw [List.getElem?_map] at h
  cases e : (List.range n)[i]? with
  | none =>
    rw [e] at h
    cases h
  | some k =>
    rw [e] at h
    have hi : i < n := by
      have := (List.getElem?_eq_some_iff.mp e).1
      rw [List.length_range] at this
      exact this
    have hk : k = i := by
      have h2 := (List.getElem?_eq_some_iff.mp e).2
      rw [List.getElem_range] at h2
      exact h2.symm
    subst hk
    cases h
    exact ⟨hi, by show IV.dat (.int (0 + (k : Int))) = _; rw [Int.zero_add]⟩
theorem FitAll.push {n k i : Nat} {acc : List PyData} {d : PyData} (h : FitAll ((n + 2) * i) k acc) (hd : Fit n k d) : FitAll ((n + 2) * (i + 1)) k (acc ++ [d]) := by
  refine (FitAll.app h (FitAll.cons' hd FitAll.nil')).mono ?_ (Nat.le_refl _)
  rw [Nat.mul_succ]
  omega
/-- all of a list fit -/
theorem fit_all {n k : Nat} : ∀ {ds : List PyData}, (∀ d ∈ ds, Fit n k d) → FitAll ((n + 2) * ds.length) k ds
  | [], _ => FitAll.nil'
  | d :: ds, h => by
    have h2 := fit_all (ds := ds) fun d m => h d (List.mem_cons_of_mem _ m)
    exact (FitAll.cons' (h d List.mem_cons_self) h2).mono (by rw [List.length_cons, Nat.mul_succ]; omega) (Nat.le_refl _)
theorem gNat {ρ : List SV} {i : Nat} {s : SV} {x : PyData} (h : ρ[i]? = some s) (hs : isPar s = false) : gN' i (.dat x) ρ = some (ρ.set i (.d x)) := by
  unfold gN'
  rw [h]
  dsimp only
  rw [hs]
  rfl
/-- a range's bound that is small -/
theorem wo_rngS {A : FM (List RV)} {ρ : List SV} {QI : List IV → List SV → Prop} (h : WO A ρ fun rs ρ1 => ∃ (r : RV) (n : Nat), rs = [r] ∧ view false ρ1 r = some (.int (n : Int)) ∧ n ≤ 1000 ∧ QI (rangeIV 0 n) ρ1) : WO (fbind A fun rs => if rs.length = 1 then fRange (fpure rs) else fun _ => none) ρ QI :=
  wo_rng1 (h.mono fun rs ρ1 ⟨r, n, e1, e2, c, q⟩ => ⟨r, n, e1, e2, ⟨by omega, by omega⟩, q⟩)
/-- a while loop: J by what is left -/
theorem wb_while {T : FM Bool} {B : FB} {D : EB} (J : Nat → List SV → Prop) (h : ∀ m ρ, J m ρ → WO T ρ fun b ρ1 => (b = false → D.nx ρ1) ∧ (b = true → ∃ m', m' < m ∧ WB B ρ1 (EB.loop D (J m')))) : ∀ (n m : Nat) (ρ : List SV), J m ρ → m < n → WB (whileF T B n) ρ D
  | 0, m, ρ, hj, hn => absurd hn (Nat.not_lt_zero _)
  | n + 1, m, ρ, hj, hn => by
    obtain ⟨b, ρ1, e1, h0, h1⟩ := h m ρ hj
    cases b with
    | false => exact ⟨.nx ρ1, by unfold whileF; rw [e1], h0 rfl⟩
    | true =>
      obtain ⟨m', hm, o, e2, q⟩ := h1 rfl
      cases o with
      | nx ρ2 =>
        obtain ⟨o3, e3, q3⟩ := wb_while J h n m' ρ2 q (by omega)
        exact ⟨o3, by unfold whileF; rw [e1]; dsimp only; rw [e2]; exact e3, q3⟩
      | ct ρ2 =>
        obtain ⟨o3, e3, q3⟩ := wb_while J h n m' ρ2 q (by omega)
        exact ⟨o3, by unfold whileF; rw [e1]; dsimp only; rw [e2]; exact e3, q3⟩
      | bk ρ2 => exact ⟨.nx ρ2, by unfold whileF; rw [e1]; dsimp only; rw [e2], q⟩
      | rt r ρ2 => exact ⟨.rt r ρ2, by unfold whileF; rw [e1]; dsimp only; rw [e2], q⟩
theorem dat_get {l : List PyData} {k : Nat} {d : IV} (h : (l.map IV.dat)[k]? = some d) : ∃ x, l[k]? = some x ∧ d = .dat x := by
  rw [List.getElem?_map] at h
  cases e : l[k]? with
  | none =>
    rw [e] at h
    cases h
  | some x =>
    rw [e] at h
    exact ⟨x, rfl, (Option.some.inj h).symm⟩
/-! titles -/
abbrev ownL : List Str := ["add", "call", "func1", "main", "neg", "pop", "push", "word", "a", "a1", "aa", "z9", "zzzzzzzzzzzz", "load", "jump", "get", "x", "x0", "x00", "swap", "dup", "not"]
theorem toStrs_map : ∀ xs : List Str, toStrs (xs.map PyData.str) = some xs
  | [] => rfl
  | x :: xs => by
    rw [List.map_cons]
    unfold toStrs
    rw [toStrs_map xs]
    rfl
theorem wo_popAt {ρ : List SV} {G : FM RV} {i : Nat} {Q : RV → List SV → Prop} {ds0 : List PyData} (h0 : ρ[i]? = some (.own ds0)) (h : WO G ρ fun r ρ1 => WO (toDat r) ρ1 fun x ρ2 => ∃ ds k y ρ3, ρ2[i]? = some (.own ds) ∧ x = .int (k : Nat) ∧ k < 4000000 ∧ ds[k]? = some y ∧ Nrm (ρ2.set i (.own (ds.eraseIdx k))) ρ3 ∧ Q (.dat y) ρ3) : WO (fMut gPopAt (fName i) G) ρ Q := by
  obtain ⟨r, ρ1, e1, x, ρ2, e2, ds, k, y, ρ3, e3, ex, hk, ey, n, q⟩ := h
  have n : ρ2.set i (.own (ds.eraseIdx k)) = ρ3 := n
  subst n ex
  refine ⟨.dat y, _, ?_, q⟩
  have a1 : fName i ρ = some (.slot i, ρ) := by
    unfold fName
    rw [h0]
  unfold fMut
  rw [fbind_eq a1]
  have a2 : needL (.slot i) ρ = some ((), ρ) := by
    unfold needL lstOf
    dsimp only
    rw [h0]
    rfl
  rw [fbind_eq a2, fbind_eq e1, fbind_eq e2]
  have a3 : lstOf (.slot i) ρ2 = some (i, .own ds, ds) := by
    unfold lstOf
    dsimp only
    rw [e3]
    rfl
  rw [a3]
  have a4 : gPopAt ds (.int (k : Nat)) = some (y, ds.eraseIdx k) := by
    unfold gPopAt
    dsimp only
    rw [if_pos (⟨Int.natCast_nonneg k, by omega⟩ : (0 : Int) ≤ (k : Nat) ∧ ((k : Nat) : Int) < 4000000), Int.toNat_natCast, ey]
    rfl
  rw [Option.bind_some]
  dsimp only
  rw [a4]
  rfl
inductive TitlesR (many : Nat) : RD → List (List PyData) → Prop
  | mk {xs : List Str} {p : List PyData} : PoolL p → xs.length = many → ascS xs = true → (∀ x ∈ xs, x ∈ ownL) → TitlesR many (.new (xs.map PyData.str)) [p]
theorem asc_of {xs : List Str} (h : xs.Pairwise leS) (n : xs.Nodup) : ascS xs = true := by
  induction xs with
  | nil => rfl
  | cons x r ih =>
    cases r with
    | nil => rfl
    | cons y r =>
      have h1 := List.pairwise_cons.mp h
      have n1 := List.nodup_cons.mp n
      show (decide (x.cps.toList < y.cps.toList) && ascS (y :: r)) = true
      rw [ih h1.2 n1.2, Bool.and_true]
      refine decide_eq_true ?_
      have hxy := h1.1 y List.mem_cons_self
      rcases Decidable.em (x.cps.toList < y.cps.toList) with z | z
      · exact z
      · have e : x = y := leS_anti hxy z
        subst e
        exact absurd List.mem_cons_self n1.1

/-! k16, the plain law, part H: titles, instructions that are drawn. -/
theorem eraseIdx_perm {α : Type} : ∀ (l : List α) {k : Nat} (h : k < l.length), ([l[k]] ++ l.eraseIdx k).Perm l
  | a :: l, 0, _ => .refl _
  | a :: l, k + 1, h => by
    show ([l[k]'(Nat.lt_of_succ_lt_succ h)] ++ a :: l.eraseIdx k).Perm (a :: l)
    exact (List.Perm.swap a _ _).trans ((eraseIdx_perm l (Nat.lt_of_succ_lt_succ h)).cons a)
theorem eraseIdx_map' {α β : Type} (f : α → β) : ∀ (l : List α) (k : Nat), (l.map f).eraseIdx k = (l.eraseIdx k).map f
  | [], _ => rfl
  | a :: l, 0 => rfl
  | a :: l, k + 1 => congrArg (f a :: ·) (eraseIdx_map' f l k)
/-- found and left together are the titles -/
def TitJ (many : Nat) (i : Nat) (ρ : List SV) : Prop := ∃ (p : List PyData) (L : List PyData) (xs ys : List Str) (s2 s5 : SV), PoolL p ∧ xs.length = i ∧ (xs ++ ys).Perm ownL ∧ isPar s5 = false ∧ (s2 = .own L ∨ s2 = .d (.list L)) ∧
  ρ = [.par p, .d (.int (many : Nat)), s2, .own (xs.map PyData.str), .own (ys.map PyData.str), s5]
theorem e_law_titles {p : List PyData} {many : Nat} (hp : PoolL p) (h1 : many ≤ 8) : WD D_law_titles [.io p, .dat (.int (many : Nat))] (TitlesR many) := by
  refine wd_run' rfl rfl (by (first | top_name | fail)) ?_
  (repeat' (first | tb_start | fail))
  refine wb_for (wo_rngS (wo_cons (wo_name rfl (wo_nil ⟨_, _, rfl, rfl, by omega, TitJ many, ⟨_, _, [], ownL, _, _, hp, rfl, .refl _, rfl, .inl rfl, rfl⟩, ?_, ?_⟩))))
  · rintro i d ρ hi ⟨p, L, xs, ys, s2, s5, hp, hl, hperm, h5, h2, rfl⟩
    obtain ⟨hi, rfl⟩ := rng_get hi
    have hlen := hperm.length_eq
    rw [List.length_append, hl] at hlen
    have hlen : i + ys.length = 22 := hlen
    refine ⟨_, gNat (i := 5) rfl h5, ?_⟩
    show WB _ [.par p, .d (.int (many : Nat)), s2, .own (xs.map PyData.str), .own (ys.map PyData.str), .d (.int i)] _
    have hy : ((ys.map PyData.str).length : Int) = (ys.length : Int) := by rw [List.length_map]
    refine wb_drop ?_
    refine wo_app rfl ?_
    refine wo_popAt rfl ?_
    (repeat' (first | tb_start | fail))
    rename_i k p hp hk0 hk1
    rw [hy] at hk1
    obtain ⟨k, rfl⟩ := Int.eq_ofNat_of_zero_le hk0
    have hk : k < ys.length := by omega
    refine ⟨_, k, .str ys[k], _, rfl, rfl, by omega, by rw [List.getElem?_map, List.getElem?_eq_getElem hk]; rfl, nrm_id, ?_⟩
    (repeat' (first | tb_start | fail))
    refine ⟨_, _, rfl, ?_, nrm_id, ?_⟩
    · rw [List.length_map]; omega
    refine ⟨p, L, xs ++ [ys[k]], ys.eraseIdx k, s2, .d (.int i), hp, by rw [List.length_append, hl]; rfl, ?_, rfl, h2, ?_⟩
    · refine List.Perm.trans ?_ hperm
      rw [List.append_assoc]
      refine List.Perm.append_left xs ?_
      exact eraseIdx_perm ys hk
    · rw [List.map_append, List.map_cons, List.map_nil, eraseIdx_map']
      rfl
  · rintro ρ ⟨p, L, xs, ys, s2, s5, hp, hl, hperm, h5, h2, rfl⟩
    rw [rng_len] at hl
    have hs : opSorted [.list (xs.map PyData.str)] = some (.list ((srtS xs).map PyData.str)) := by
      unfold opSorted
      dsimp only
      rw [toStrs_map]
      exact if_pos (by omega)
    have hnd : ownL.Nodup := by decide +kernel
    have hx : xs.Nodup := (List.nodup_append.mp (hperm.nodup_iff.mpr hnd)).1
    (repeat' (first | tb_start | fail))
    refine .mk hp ?_ ?_ ?_
    · rw [(srt_perm xs).length_eq, hl]
    · exact asc_of (srt_sorted xs) ((srt_perm xs).nodup_iff.mpr hx)
    · intro x m
      exact hperm.mem_iff.mp (List.mem_append_left _ ((srt_perm xs).mem_iff.mp m))
/-! instructions -/
def RowB (s n : Int) (an fn : List Str) (d : PyData) : Prop := insD s n an fn d = true ∧ Fit 100 1 d
section
variable {s n : Int} {an fn : List Str} {p : List PyData} {L1 L2 : List PyData}
theorem rb_bare {w : Str} (h : inV (.str w) bareV = true) (hf : Fit 30 0 (.str w)) : RowB s n an fn (.tuple [.str w]) := ⟨h, (fit1 hf).mono (by decide) (by decide)⟩
theorem rb_push {k : Int} (h0 : -2147483648 ≤ k) (h1 : k ≤ 2147483647) : RowB s n an fn (.tuple [.str "push", .int k]) := ⟨by
  rw [ins_2, if_pos (by decide +kernel)]
  exact Bool.and_eq_true_iff.mpr ⟨decide_eq_true h0, decide_eq_true h1⟩, (fit2 (m := 0) (show Fit 30 0 (.str "push") by top_raise0) (int_fit (by omega) (by omega))).mono (by decide) (by decide)⟩
theorem rb_load {k : Int} (h0 : 0 ≤ k) (h1 : k < s) (hs : s ≤ 100) : RowB s n an fn (.tuple [.str "load", .int k]) := ⟨by
  rw [ins_2, if_neg (by decide +kernel), if_pos (by decide +kernel)]
  exact Bool.and_eq_true_iff.mpr ⟨decide_eq_true h0, decide_eq_true (by omega)⟩, (fit2 (m := 0) (show Fit 30 0 (.str "load") by top_raise0) (int_fit (by omega) (by omega))).mono (by decide) (by decide)⟩
theorem rb_store {k : Int} (h0 : 0 ≤ k) (h1 : k < s) (hs : s ≤ 100) : RowB s n an fn (.tuple [.str "store", .int k]) := ⟨by
  rw [ins_2, if_neg (by decide +kernel), if_pos (by decide +kernel)]
  exact Bool.and_eq_true_iff.mpr ⟨decide_eq_true h0, decide_eq_true (by omega)⟩, (fit2 (m := 0) (show Fit 30 0 (.str "store") by top_raise0) (int_fit (by omega) (by omega))).mono (by decide) (by decide)⟩
theorem rb_jump {w : Str} {k : Int} (h : w = "jump" ∨ w = "jumpif") (h0 : 0 ≤ k) (h1 : k < n) (hn : n ≤ 100000) : RowB s n an fn (.tuple [.str w, .int k]) := by
  have hk : cntD 0 (n - 1) (.int k) = true := Bool.and_eq_true_iff.mpr ⟨decide_eq_true h0, decide_eq_true (by omega)⟩
  rcases h with rfl | rfl
  · exact ⟨by rw [ins_2, if_neg (by decide +kernel), if_neg (by decide +kernel), if_pos (by decide +kernel)]; exact hk, (fit2 (m := 0) (show Fit 30 0 (.str "jump") by top_raise0) (int_fit (by omega) (by omega))).mono (by decide) (by decide)⟩
  · exact ⟨by rw [ins_2, if_neg (by decide +kernel), if_neg (by decide +kernel), if_pos (by decide +kernel)]; exact hk, (fit2 (m := 0) (show Fit 30 0 (.str "jumpif") by top_raise0) (int_fit (by omega) (by omega))).mono (by decide) (by decide)⟩
theorem rb_get {x : Str} (h : x ∈ an) (hf : Fit 30 0 (.str x)) : RowB s n an fn (.tuple [.str "get", .str x]) := ⟨by
  rw [ins_2, if_neg (by decide +kernel), if_neg (by decide +kernel), if_neg (by decide +kernel)]
  show ((_ && inV (.str x) (an.map V.str)) || _) = true
  rw [inS, decide_eq_true h, show inV (.str "get") [.str "get", .str "set"] = true by decide +kernel]
  rfl, (fit2 (m := 0) (show Fit 30 0 (.str "get") by top_raise0) hf).mono (by decide) (by decide)⟩
theorem rb_set {x : Str} (h : x ∈ an) (hf : Fit 30 0 (.str x)) : RowB s n an fn (.tuple [.str "set", .str x]) := ⟨by
  rw [ins_2, if_neg (by decide +kernel), if_neg (by decide +kernel), if_neg (by decide +kernel)]
  show ((_ && inV (.str x) (an.map V.str)) || _) = true
  rw [inS, decide_eq_true h, show inV (.str "set") [.str "get", .str "set"] = true by decide +kernel]
  rfl, (fit2 (m := 0) (show Fit 30 0 (.str "set") by top_raise0) hf).mono (by decide) (by decide)⟩
theorem rb_call {x : Str} (h : x ∈ fn) (hf : Fit 30 0 (.str x)) : RowB s n an fn (.tuple [.str "call", .str x]) := ⟨by
  rw [ins_2, if_neg (by decide +kernel), if_neg (by decide +kernel), if_neg (by decide +kernel)]
  simp only [nameIn, inS, h, decide_true, Bool.and_true, Bool.or_true], (fit2 (m := 0) (show Fit 30 0 (.str "call") by top_raise0) hf).mono (by decide) (by decide)⟩
def BareB (d : PyData) : Prop := ∃ w : Str, d = .str w ∧ inV (.str w) bareV = true ∧ Fit 30 0 (.str w)
def bareB : PyData → Bool
  | .str x => inV (.str x) bareV && (okd (.str x) && decide ((PyData.str x).shown.length ≤ 30))
  | _ => false
theorem bares_ok {ds : List PyData} (h : ds.all bareB = true) : ∀ d ∈ ds, BareB d := fun d m => by
  have h := List.all_eq_true.mp h d m
  cases d with
  | str x =>
    have c := Bool.and_eq_true_iff.mp h
    have c2 := Bool.and_eq_true_iff.mp c.2
    exact ⟨x, rfl, c.1, Fit.str ⟨of_decide_eq_true c2.2, c2.1⟩⟩
  | _ => cases h
structure RoomG (s : Int) (an fn : List Str) (L1 L2 : List PyData) : Prop where
  s0 : 0 ≤ s
  s1 : s ≤ 10
  i1 : ∀ d ∈ L1, ∃ (x : Str) (j : Int), d = .tuple [.str x, .int j] ∧ x ∈ an ∧ Fit 30 0 (.str x) ∧ 1 ≤ j ∧ j ≤ 256
  i2 : ∀ d ∈ L2, ∃ (x : Str) (j : Int), d = .tuple [.str x, .int j] ∧ x ∈ fn ∧ Fit 30 0 (.str x) ∧ 0 ≤ j ∧ j ≤ 3
  l1 : L1.length ≤ 1000
  l2 : L2.length ≤ 1000
  n1 : opNe (.list L1) (.list []) = some (.bool (decide ((0 : Int) < L1.length)))
  n2 : opNe (.list L2) (.list []) = some (.bool (decide ((0 : Int) < L2.length)))
inductive GrowR (s n : Int) (an fn : List Str) (high : Int) : RD → List (List PyData) → Prop
  | mk {rows p : List PyData} {h : Int} : PoolL p → (∀ d ∈ rows, RowB s n an fn d) → rows.length ≤ 4 → 0 ≤ h → h ≤ high + 1 → GrowR s n an fn high (.dat (.tuple [.list rows, .int h])) [p]
theorem all1 {P : PyData → Prop} {a : PyData} (h : P a) : ∀ d ∈ [a], P d := fun d m => by rw [List.mem_singleton.mp m]; exact h
theorem all2 {P : PyData → Prop} {a b : PyData} (h : P a) (h2 : P b) : ∀ d ∈ [a, b], P d := List.forall_mem_cons.mpr ⟨h, all1 h2⟩
theorem all3 {P : PyData → Prop} {a b c : PyData} (h : P a) (h2 : P b) (h3 : P c) : ∀ d ∈ [a, b, c], P d := List.forall_mem_cons.mpr ⟨h, all2 h2 h3⟩
def TupB (d : PyData) : Prop := ∃ w : Str, d = .tuple [.str w] ∧ inV (.str w) bareV = true ∧ Fit 30 0 (.str w)
def tupB : PyData → Bool
  | .tuple [.str x] => inV (.str x) bareV && (okd (.str x) && decide ((PyData.str x).shown.length ≤ 30))
  | _ => false
theorem tups_ok {ds : List PyData} (h : ds.all tupB = true) : ∀ d ∈ ds, TupB d := fun d m => by
  have h := List.all_eq_true.mp h d m
  unfold tupB at h
  split at h
  · have c := Bool.and_eq_true_iff.mp h
    have c2 := Bool.and_eq_true_iff.mp c.2
    exact ⟨_, rfl, c.1, Fit.str ⟨of_decide_eq_true c2.2, c2.1⟩⟩
  · cases h
theorem ix_use2 {P : PyData → Prop} {x y : RV} {ρ : List SV} {a b : PyData} {c : Bool} {Q : PyData → Prop} (hx : view false ρ x = some (.list [a, b])) (hy : view false ρ y = some (.int (if c = true then 1 else 0))) (h : ∀ d ∈ [a, b], P d) (q : ∀ d, P d → Q d) :
    ∃ dx dy z, view false ρ x = some dx ∧ view false ρ y = some dy ∧ opIx dx dy = some z ∧ Q z := by
  cases c with
  | true => exact ⟨_, _, b, hx, hy, rfl, q _ (h b (List.mem_cons_of_mem _ List.mem_cons_self))⟩
  | false => exact ⟨_, _, a, hx, hy, rfl, q _ (h a List.mem_cons_self)⟩
theorem e_law_grow {high : Int} (hr : RoomG s an fn L1 L2) (hp : PoolL p) (hh0 : 0 ≤ high) (hh1 : high ≤ 100) : WD D_law_grow [.io p, .dat (.tuple [.int s, .list L1, .list L2]), .dat (.int high)] (GrowR s n an fn high) := by
  have n1 := hr.n1
  have l1 := hr.l1
  have n2 := hr.n2
  have l2 := hr.l2
  have s0 := hr.s0
  have s1 := hr.s1
  refine wd_run' rfl rfl (by (first | top_name | fail)) ?_
  (repeat' (first | tb_start | fail))
  all_goals try (first | exact .mk (by assumption) (all1 (rb_push (by top_raise) (by top_raise))) (Nat.le_of_ble_eq_true rfl) (by top_raise) (by top_raise) | exact .mk (by assumption) (all1 (rb_load (by top_raise) (by top_raise) (by omega))) (Nat.le_of_ble_eq_true rfl) (by top_raise) (by top_raise) | exact .mk (by assumption) (all1 (rb_store (by top_raise) (by top_raise) (by omega))) (Nat.le_of_ble_eq_true rfl) (by top_raise) (by top_raise) | exact .mk (by assumption) (all1 (rb_bare (by decide +kernel) (by top_raise0))) (Nat.le_of_ble_eq_true rfl) (by top_raise) (by top_raise) | fail)
  all_goals try (refine ix_use (ds := L1) rfl rfl hr.i1 (by assumption) (by assumption) ?_; rintro _ ⟨x, j, rfl, hx, hf, hj0, hj1⟩; (repeat' (first | tb_start | fail)))
  · exact .mk (by assumption) (all2 (rb_push (by top_raise) (by split at * <;> omega)) (rb_get hx hf)) (Nat.le_of_ble_eq_true rfl) (by top_raise) (by top_raise)
  · exact .mk (by assumption) (all3 (rb_push (by top_raise) (by split at * <;> omega)) (rb_push (by top_raise) (by top_raise)) (rb_set hx hf)) (Nat.le_of_ble_eq_true rfl) (by top_raise) (by top_raise)
  all_goals first
    | (refine ix_use (ds := L2) rfl rfl hr.i2 (by assumption) (by assumption) ?_
       rintro _ ⟨x, j, rfl, hx, hf, hj0, hj1⟩
       (repeat' (first | tb_start | fail))
       refine wo_lcP (fun i acc => acc.length = i ∧ ∀ d ∈ acc, RowB s n an fn d) (wo_rng1 (wo_cons (wo_name rfl (wo_nil ⟨_, _, rfl, rfl, ⟨by omega, by omega⟩, _, _, rfl, by rw [rng_len]; omega, by (first | top_name | fail), by assumption, ?_, ⟨rfl, fun _ z => nomatch z⟩, ?_⟩))))
       · rintro i d p acc hi hp ⟨hl, hf⟩
         obtain ⟨hi, rfl⟩ := rng_get hi
         refine ⟨_, rfl, ?_⟩
         (repeat' (first | tb_start | fail))
         exact ⟨_, by assumption, ⟨by rw [List.length_append, hl]; rfl, List.forall_mem_append.mpr ⟨hf, all1 (rb_push (by top_raise) (by top_raise))⟩⟩, rfl⟩
       · rintro out p hp ⟨hl, hf2⟩
         rw [rng_len] at hl
         refine ⟨_, by (first | top_name | fail), ?_⟩
         have ho : opAdd (.list out) (.list [.tuple [.str "call", .str x]]) = some (.list (out ++ [.tuple [.str "call", .str x]])) := if_pos (by show out.length + 1 ≤ 4000000; omega)
         (repeat' (first | tb_start | fail))
         exact .mk (by assumption) (List.forall_mem_append.mpr ⟨hf2, all1 (rb_call hx hf)⟩) (by rw [List.length_append, hl]; show _ + 1 ≤ 4; omega) (by top_raise) (by top_raise))
    | (refine ix_use2 (P := TupB) rfl rfl (tups_ok (by decide +kernel)) ?_
       rintro _ ⟨w, rfl, hw, hf⟩
       (repeat' (first | tb_start | fail))
       exact .mk (by assumption) (all1 (rb_bare hw hf)) (Nat.le_of_ble_eq_true rfl) (by top_raise) (by top_raise))
    | (refine ix_use (P := TupB) rfl rfl (tups_ok (by decide +kernel)) (by top_raise) (by show _ < (3 : Int); top_raise) ?_
       rintro _ ⟨w, rfl, hw, hf⟩
       (repeat' (first | tb_start | fail))
       exact .mk (by assumption) (all1 (rb_bare hw hf)) (Nat.le_of_ble_eq_true rfl) (by top_raise) (by top_raise))
    | (refine ix_use (P := BareB) rfl rfl (bares_ok (by decide +kernel)) (by top_raise) (by show _ < (16 : Int); top_raise) ?_
       rintro _ ⟨w, rfl, hw, hf⟩
       (repeat' (first | tb_start | fail))
       exact .mk (by assumption) (all1 (rb_bare hw hf)) (Nat.le_of_ble_eq_true rfl) (by top_raise) (by top_raise))
end

/-! k16, the plain law, part I: blocks that are drawn. -/
theorem wo_ext {ρ : List SV} {G : FM RV} {i : Nat} {Q : RV → List SV → Prop} {ds0 : List PyData} (h0 : ρ[i]? = some (.own ds0)) (h : WO G ρ fun r ρ1 => ∃ es ds ρ3, view false ρ1 r = some (.list es) ∧ ρ1[i]? = some (.own ds) ∧ ds.length + es.length ≤ 4000000 ∧ Nrm (ρ1.set i (.own (ds ++ es))) ρ3 ∧ Q (.dat .none) ρ3) : WO (fMutV gExtend (fName i) G) ρ Q := by
  obtain ⟨r, ρ1, e1, es, ds, ρ3, ev, e3, hl, n, q⟩ := h
  have n : ρ1.set i (.own (ds ++ es)) = ρ3 := n
  subst n
  refine ⟨.dat .none, _, ?_, q⟩
  have a1 : fName i ρ = some (.slot i, ρ) := by
    unfold fName
    rw [h0]
  unfold fMutV
  rw [fbind_eq a1]
  have a2 : needL (.slot i) ρ = some ((), ρ) := by
    unfold needL lstOf
    dsimp only
    rw [h0]
    rfl
  rw [fbind_eq a2, fbind_eq e1]
  have a3 : lstOf (.slot i) ρ1 = some (i, .own ds, ds) := by
    unfold lstOf
    dsimp only
    rw [e3]
    rfl
  rw [ev, Option.bind_some, a3, Option.bind_some]
  have a4 : gExtend ds (.list es) = some (.none, ds ++ es) := if_pos hl
  dsimp only
  rw [a4]
  rfl
local macro_rules | `(tactic| tb_rel) => `(tactic| with_unfolding_all (refine ⟨_, _, rfl, by top_raise, by (first | top_name | fail), ?_⟩))
theorem wf0 : opIn (.str "jumpif") (.tuple [.str "jumpif", .str "go"]) = some (.bool true) := rfl
theorem wf1 : opIn (.str "jumpif") (.tuple [.str "jumpif", .str "return"]) = some (.bool true) := rfl
theorem wf2 : opIn (.str "jumpif") (.tuple [.str "jump", .str "jumpif"]) = some (.bool true) := rfl
theorem wf3 : opNe (.str "jumpif") (.str "trap") = some (.bool true) := rfl
theorem wf4 : opNe (.str "jumpif") (.str "go") = some (.bool true) := rfl
theorem wf5 : opIn (.str "jump") (.tuple [.str "jumpif", .str "go"]) = some (.bool false) := rfl
theorem wf6 : opIn (.str "jump") (.tuple [.str "jumpif", .str "return"]) = some (.bool false) := rfl
theorem wf7 : opIn (.str "jump") (.tuple [.str "jump", .str "jumpif"]) = some (.bool true) := rfl
theorem wf8 : opNe (.str "jump") (.str "trap") = some (.bool true) := rfl
theorem wf9 : opNe (.str "jump") (.str "go") = some (.bool true) := rfl
theorem wf10 : opIn (.str "return") (.tuple [.str "jumpif", .str "go"]) = some (.bool false) := rfl
theorem wf11 : opIn (.str "return") (.tuple [.str "jumpif", .str "return"]) = some (.bool true) := rfl
theorem wf12 : opIn (.str "return") (.tuple [.str "jump", .str "jumpif"]) = some (.bool false) := rfl
theorem wf13 : opNe (.str "return") (.str "trap") = some (.bool true) := rfl
theorem wf14 : opNe (.str "return") (.str "go") = some (.bool true) := rfl
theorem wf15 : opIn (.str "go") (.tuple [.str "jumpif", .str "go"]) = some (.bool true) := rfl
theorem wf16 : opIn (.str "go") (.tuple [.str "jumpif", .str "return"]) = some (.bool false) := rfl
theorem wf17 : opIn (.str "go") (.tuple [.str "jump", .str "jumpif"]) = some (.bool false) := rfl
theorem wf18 : opNe (.str "go") (.str "trap") = some (.bool true) := rfl
theorem wf19 : opNe (.str "go") (.str "go") = some (.bool false) := rfl
theorem wf20 : opIn (.str "trap") (.tuple [.str "jumpif", .str "go"]) = some (.bool false) := rfl
theorem wf21 : opIn (.str "trap") (.tuple [.str "jumpif", .str "return"]) = some (.bool false) := rfl
theorem wf22 : opIn (.str "trap") (.tuple [.str "jump", .str "jumpif"]) = some (.bool false) := rfl
theorem wf23 : opNe (.str "trap") (.str "trap") = some (.bool false) := rfl
theorem wf24 : opNe (.str "trap") (.str "go") = some (.bool true) := rfl
inductive BlockR (s n : Int) (an fn : List Str) (last : Bool) : RD → List (List PyData) → Prop
  | mk {rows p : List PyData} : PoolL p → (∀ d ∈ rows, RowB s n an fn d) → rows.length ≤ 40 → (last = true → rows ≠ []) → BlockR s n an fn last (.new rows) [p]
section
variable {s n : Int} {an fn : List Str} {p : List PyData} {L1 L2 : List PyData} {last : Bool}
theorem GrowR.then {high : Int} {D : FD} {as : List AV} {Q : RD → List (List PyData) → Prop} (h : WD D as (GrowR s n an fn high)) (q : ∀ (rows p : List PyData) (h : Int), PoolL p → (∀ d ∈ rows, RowB s n an fn d) → rows.length ≤ 4 → 0 ≤ h → h ≤ high + 1 → Q (.dat (.tuple [.list rows, .int h])) [p]) : WD D as Q :=
  h.mono fun r os z => by
    cases z with
    | mk hp h1 h2 h3 h4 => exact q _ _ _ hp h1 h2 h3 h4
/-- while instructions are drawn -/
def BlkJ (s n : Int) (an fn : List Str) (room : PyData) (last : Bool) (i : Nat) (ρ : List SV) : Prop :=
  ∃ (p rows : List PyData) (high : Int) (s6 s7 : SV), PoolL p ∧ (∀ d ∈ rows, RowB s n an fn d) ∧ rows.length ≤ 4 * i ∧ 0 ≤ high ∧ high ≤ i ∧ isPar s6 = false ∧ isPar s7 = false ∧
    ρ = [.par p, .d room, .d (.int n), .d (.bool last), .own rows, .d (.int high), s6, s7, .un, .un]
/-- while the height is brought to what is needed -/
def WhlJ (s n : Int) (an fn : List Str) (room : PyData) (last : Bool) (way : Str) (need : Int) (s6 s7 : SV) (m : Nat) (ρ : List SV) : Prop :=
  ∃ (p rows : List PyData) (high : Int), PoolL p ∧ (∀ d ∈ rows, RowB s n an fn d) ∧ rows.length + m ≤ 32 ∧ (high - need).natAbs = m ∧ 
    ρ = [.par p, .d room, .d (.int n), .d (.bool last), .own rows, .d (.int high), s6, s7, .d (.str way), .d (.int need)]
def WayB (d : PyData) : Prop := d = .str "jumpif" ∨ d = .str "jump" ∨ d = .str "return" ∨ d = .str "go" ∨ d = .str "trap"
theorem wayBs : ∀ d ∈ [PyData.str "jumpif", .str "jumpif", .str "jump", .str "return", .str "go", .str "trap"], WayB d := by
  intro d m
  simp only [List.mem_cons, List.not_mem_nil, or_false] at m
  rcases m with rfl | rfl | rfl | rfl | rfl | rfl
  · exact .inl rfl
  · exact .inl rfl
  · exact .inr (.inl rfl)
  · exact .inr (.inr (.inl rfl))
  · exact .inr (.inr (.inr (.inl rfl)))
  · exact .inr (.inr (.inr (.inr rfl)))
theorem gn75 {a0 a1 a2 a3 a4 s5 s6 s7 a8 a9 : SV} {x y : PyData} (h5 : isPar s5 = false) (h7 : isPar s7 = false) : (gTup' 2 (gCons' (gN' 7) (gCons' (gN' 5) gNil'))) (.dat (.tuple [x, y])) [a0, a1, a2, a3, a4, s5, s6, s7, a8, a9] = some [a0, a1, a2, a3, a4, .d y, s6, .d x, a8, a9] := by
  show (gN' 7 (.dat x) _).bind _ = _
  rw [gNat (i := 7) (s := s7) rfl h7]
  show (gN' 5 (.dat y) _).bind _ = _
  rw [gNat (i := 5) (s := s5) rfl h5]
  rfl
theorem e_law_block (hr : RoomG s an fn L1 L2) (hp : PoolL p) (hn0 : 1 ≤ n) (hn1 : n ≤ 100) : WD D_law_block [.io p, .dat (.tuple [.int s, .list L1, .list L2]), .dat (.int n), .dat (.bool last)] (BlockR s n an fn last) := by
  have f0 := wf0
  have f1 := wf1
  have f2 := wf2
  have f3 := wf3
  have f4 := wf4
  have f5 := wf5
  have f6 := wf6
  have f7 := wf7
  have f8 := wf8
  have f9 := wf9
  have f10 := wf10
  have f11 := wf11
  have f12 := wf12
  have f13 := wf13
  have f14 := wf14
  have f15 := wf15
  have f16 := wf16
  have f17 := wf17
  have f18 := wf18
  have f19 := wf19
  have f20 := wf20
  have f21 := wf21
  have f22 := wf22
  have f23 := wf23
  have f24 := wf24
  refine wd_run' rfl rfl (by (first | top_name | fail)) ?_
  (repeat' (first | tb_start | fail))
  refine wb_for (wo_rngS (wo_cons ?_))
  (repeat' (first | tb_start | fail))
  rename_i k p hp hk0 hk1
  obtain ⟨K, rfl⟩ := Int.eq_ofNat_of_zero_le hk0
  refine ⟨_, K, rfl, rfl, by omega, BlkJ s n an fn (.tuple [.int s, .list L1, .list L2]) last, ⟨p, [], 0, .un, .un, hp, (fun _ z => nomatch z), Nat.zero_le _, by decide, by omega, rfl, rfl, rfl⟩, ?_, ?_⟩
  · rintro i d ρ hi ⟨p, rows, high, s6, s7, hp, hrow, hlen, hh0, hh1, h6, h7, rfl⟩
    obtain ⟨hi, rfl⟩ := rng_get hi
    refine ⟨_, gNat (i := 6) rfl h6, ?_⟩
    show WB _ [.par p, .d (.tuple [.int s, .list L1, .list L2]), .d (.int n), .d (.bool last), .own rows, .d (.int high), .d (.int i), s7, .un, .un] _
    refine wb_seq (wb_asg ?_)
    (repeat' (first | tb_start | fail))
    refine GrowR.then (e_law_grow (n := n) hr hp hh0 (by omega)) fun more p h hp hm hml h0 h1 => ?_
    (with_unfolding_all (first | refine outs_par0 ?_ | skip))
    refine ⟨_, _, rfl, _, gn75 rfl h7, _, nrm_id, ?_⟩
    refine wb_drop (wo_ext rfl ?_)
    (repeat' (first | tb_start | fail))
    refine ⟨_, _, _, rfl, rfl, by omega, nrm_id, ?_⟩
    exact ⟨p, rows ++ more, h, .d (.int i), .d (.list more), hp, List.forall_mem_append.mpr ⟨hrow, hm⟩, by rw [List.length_append]; omega, h0, by omega, rfl, rfl, rfl⟩
  · rintro ρ ⟨p, rows, high, s6, s7, hp, hrow, hlen, hh0, hh1, h6, h7, rfl⟩
    rw [rng_len] at hlen hh1
    (repeat' (first | tb_start | fail))
    refine ix_use (P := WayB) rfl rfl wayBs (by assumption) (by assumption) ?_
    intro d hd
    rcases hd with rfl | rfl | rfl | rfl | rfl
    all_goals (repeat' (first | tb_start | fail))
    all_goals first
      | (refine wb_while (WhlJ s n an fn (.tuple [.int s, .list L1, .list L2]) last _ _ s6 s7) ?_ 1000 _ _ ⟨_, _, _, (by assumption), hrow, by omega, rfl, rfl⟩ (by omega)
         rintro m ρ ⟨p, rows, high, hp, hrow, hl, hm, rfl⟩
         (repeat' (first | tb_start | fail)))
      | (show WB (fSeq _ _) _ _
         (repeat' (first | tb_start | fail)))
    all_goals clear f0 f1 f2 f3 f4 f5 f6 f7 f8 f9 f10 f11 f12 f13 f14 f15 f16 f17 f18 f19 f20 f21 f22 f23 f24
    all_goals try first
      | exact .mk (by assumption) (List.forall_mem_append.mpr ⟨hrow, all1 (rb_bare (by decide +kernel) (by top_raise0))⟩) (by rw [List.length_append]; show rows.length + 1 ≤ 40; omega) (fun _ => by simp)
      | exact .mk (by assumption) (List.forall_mem_append.mpr ⟨hrow, all1 (rb_jump (.inl rfl) (by assumption) (by assumption) (by omega))⟩) (by rw [List.length_append]; show rows.length + 1 ≤ 40; omega) (fun _ => by simp)
      | exact .mk (by assumption) (List.forall_mem_append.mpr ⟨hrow, all1 (rb_jump (.inr rfl) (by assumption) (by assumption) (by omega))⟩) (by rw [List.length_append]; show rows.length + 1 ≤ 40; omega) (fun _ => by simp)
      | exact .mk (by assumption) hrow (by omega) (fun h => by simp_all)
    all_goals (
      refine ⟨m - 1, by top_raise, ?_⟩
      (repeat' (first | tb_start | fail))
      all_goals try refine ix_use (P := TupB) rfl rfl (tups_ok (by decide +kernel)) (by assumption) (by assumption) ?_
      all_goals try (rintro _ ⟨w, rfl, hw, hf⟩; (repeat' (first | tb_start | fail)))
      all_goals first
        | exact ⟨_, _, _, by assumption, List.forall_mem_append.mpr ⟨hrow, all1 (rb_push (by assumption) (by assumption))⟩, by rw [List.length_append]; show rows.length + 1 + _ ≤ 32; top_raise, by top_raise, rfl⟩
        | exact ⟨_, _, _, by assumption, List.forall_mem_append.mpr ⟨hrow, all1 (rb_bare hw hf)⟩, by rw [List.length_append]; show rows.length + 1 + _ ≤ 32; top_raise, by top_raise, rfl⟩
        | fail)
end

/-! k16, the plain law, part J: functions that are drawn. -/
section
variable {s n : Int} {an fn : List Str} {p : List PyData} {L1 L2 : List PyData} {last : Bool}
theorem BlockR.then {D : FD} {as : List AV} {Q : RD → List (List PyData) → Prop} (h : WD D as (BlockR s n an fn last)) (q : ∀ (rows p : List PyData), PoolL p → (∀ d ∈ rows, RowB s n an fn d) → rows.length ≤ 40 → (last = true → rows ≠ []) → Q (.new rows) [p]) : WD D as Q :=
  h.mono fun r os z => by
    cases z with
    | mk hp h1 h2 h3 => exact q _ _ hp h1 h2 h3
def isJ (w : Str) : Bool := inV (.str w) [.str "jump", .str "jumpif"]
/-- an instruction jumps, or it stays right whatever the number of instructions is -/
theorem row_cases {d : PyData} (h : RowB s n an fn d) : (∃ (w : Str) (k : Int), d = .tuple [.str w, .int k] ∧ isJ w = true ∧ 0 ≤ k ∧ k < n) ∨ (∃ (w : Str) (r : List PyData), d = .tuple (.str w :: r) ∧ isJ w = false ∧ ∀ n', RowB s n' an fn d) := by
  obtain ⟨hi, hf⟩ := h
  unfold insD at hi
  split at hi
  · rename_i w
    right
    refine ⟨w, [], rfl, ?_, fun n' => ⟨hi, hf⟩⟩
    unfold isJ
    rw [show [V.str "jump", .str "jumpif"] = ([("jump" : Str), "jumpif"] : List Str).map V.str from rfl, inS]
    rw [show bareV = ([("dup" : Str), "swap", "pop", "put", "return", "trap", "neg", "not", "add", "sub", "mul", "div", "rem", "and", "or", "xor", "shl", "shr", "lt", "le", "gt", "ge", "eq", "ne"] : List Str).map V.str from rfl, inS] at hi
    refine decide_eq_false fun m => ?_
    have hi := of_decide_eq_true hi
    have hb : ∀ x ∈ ([("jump" : Str), "jumpif"] : List Str), x ∉ ([("dup" : Str), "swap", "pop", "put", "return", "trap", "neg", "not", "add", "sub", "mul", "div", "rem", "and", "or", "xor", "shl", "shr", "lt", "le", "gt", "ge", "eq", "ne"] : List Str) := by decide +kernel
    exact hb w m hi
  · rename_i w g
    cases hj : isJ w with
    | false =>
      right
      refine ⟨w, [g], rfl, hj, fun n' => ⟨?_, hf⟩⟩
      rw [ins_2]
      unfold isJ at hj
      rw [hj] at hi ⊢
      exact hi
    | true =>
      left
      have hw : w = "jump" ∨ w = "jumpif" := by
        unfold isJ at hj
        rw [show [V.str "jump", .str "jumpif"] = ([("jump" : Str), "jumpif"] : List Str).map V.str from rfl, inS] at hj
        have hj := of_decide_eq_true hj
        simpa using hj
      have hg : cntD 0 (n - 1) g = true := by
        rcases hw with rfl | rfl
        · rw [if_neg (by decide +kernel), if_neg (by decide +kernel), if_pos (by decide +kernel)] at hi
          exact hi
        · rw [if_neg (by decide +kernel), if_neg (by decide +kernel), if_pos (by decide +kernel)] at hi
          exact hi
      cases g with
      | int k =>
        have hk := Bool.and_eq_true_iff.mp hg
        have h0 := of_decide_eq_true hk.1
        have h1 := of_decide_eq_true hk.2
        exact ⟨w, k, rfl, hj, h0, by omega⟩
      | _ => cases hg
  · cases hi
/-- a function's instructions -/
structure FunB (t : Str) (params s : Int) (an fn : List Str) (d : PyData) : Prop where
  ex : ∃ rows : List PyData, d = .tuple [.str t, .int params, .int s, .tuple rows] ∧ (∀ e ∈ rows, RowB s rows.length an fn e) ∧ 1 ≤ rows.length ∧ rows.length ≤ 400
inductive FunR (t : Str) (params s : Int) (an fn : List Str) : RD → List (List PyData) → Prop
  | mk {d : PyData} {p : List PyData} : PoolL p → FunB t params s an fn d → FunR t params s an fn (.dat d) [p]
def BlksP (s : Int) (many : Nat) (an fn : List Str) (i : Nat) (acc : List PyData) : Prop :=
  acc.length = i ∧ ∀ (k : Nat) (d : PyData), acc[k]? = some d → ∃ rows, d = .list rows ∧ (∀ e ∈ rows, RowB s many an fn e) ∧ rows.length ≤ 40 ∧ (k + 1 = many → rows ≠ [])
/-- while the blocks are put one behind the other -/
def SndJ (s : Int) (many : Nat) (an fn : List Str) (t params room : PyData) (blocks : List PyData) (i : Nat) (ρ : List SV) : Prop :=
  ∃ (p spots rows : List PyData) (s6 s9 : SV), PoolL p ∧ spots.length = i ∧ (∀ d ∈ spots, ∃ j : Int, d = .int j ∧ 0 ≤ j ∧ j ≤ rows.length ∧ (i = many → j < rows.length)) ∧ (∀ e ∈ rows, RowB s many an fn e) ∧ rows.length ≤ 40 * i ∧ isPar s6 = false ∧ isPar s9 = false ∧
    ρ = [.par p, .d t, .d params, .d room, .d (.int many), .d (.list blocks), s6, .own spots, .own rows, s9, .un, .un]
def FndJ (s : Int) (total many : Nat) (an fn : List Str) (t params room : PyData) (blocks spots rows : List PyData) (s6 s9 : SV) (i : Nat) (ρ : List SV) : Prop :=
  ∃ (p found : List PyData) (s7 s11 : SV), PoolL p ∧ found.length = i ∧ (∀ e ∈ found, RowB s total an fn e) ∧ isPar s11 = false ∧ (s7 = .own spots ∨ s7 = .d (.list spots)) ∧
    ρ = [.par p, .d t, .d params, .d room, .d (.int many), .d (.list blocks), s6, s7, .d (.list rows), s9, .own found, s11]
theorem e_law_sound {t : Str} {params : Int} {many : Nat} (hr : RoomG s an fn L1 L2) (hp : PoolL p) (hn0 : 1 ≤ many) (hn1 : many ≤ 10) : WD D_law_sound [.io p, .dat (.str t), .dat (.int params), .dat (.tuple [.int s, .list L1, .list L2]), .dat (.int many)] (FunR t params s an fn) := by
  refine wd_run' rfl rfl (by (first | top_name | fail)) ?_
  refine wb_seq (wb_set ?_)
  refine wo_lcP (BlksP s many an fn) (wo_rngS (wo_cons (wo_name rfl (wo_nil ⟨_, many, rfl, rfl, by omega, p, _, rfl, by rw [rng_len]; omega, by (first | top_name | fail), hp, ?_, ⟨rfl, fun k d e => nomatch e⟩, ?_⟩))))
  · rintro i d p acc hi hp ⟨hl, ha⟩
    obtain ⟨hi, rfl⟩ := rng_get hi
    refine ⟨_, rfl, ?_⟩
    (repeat' (first | tb_start | fail))
    refine BlockR.then (e_law_block hr hp (by omega) (by omega)) fun rows p hp hrow hlen hlast => ?_
    (with_unfolding_all (first | refine outs_par0 ?_ | skip))
    (repeat' (first | tb_start | fail))
    refine ⟨p, hp, ⟨by rw [List.length_append, hl]; rfl, fun k d e => ?_⟩, rfl⟩
    by_cases hk : k < acc.length
    · rw [List.getElem?_append_left hk] at e
      exact ha k d e
    · have hk2 : k = acc.length := by
        have := (List.getElem?_eq_some_iff.mp e).1
        rw [List.length_append] at this
        have : k < acc.length + 1 := this
        omega
      subst hk2
      rw [List.getElem?_append_right (Nat.le_refl _), Nat.sub_self] at e
      cases e
      exact ⟨rows, rfl, hrow, hlen, fun z => hlast (decide_eq_true (congrArg V.int (by omega)))⟩
  · rintro blocks p hp ⟨hl, hb⟩
    rw [rng_len] at hl
    refine ⟨_, by (first | top_name | fail), ?_⟩
    (repeat' (first | tb_start | fail))
    refine wb_for (wo_iter ?_)
    (repeat' (first | tb_start | fail))
    refine ⟨(fun _ z => nomatch z), blocks, rfl, SndJ s many an fn (.str t) (.int params) (.tuple [.int s, .list L1, .list L2]) blocks, ⟨p, [], [], .un, .un, hp, rfl, fun _ z => (nomatch z), fun _ z => (nomatch z), Nat.zero_le _, rfl, rfl, rfl⟩, ?_, ?_⟩
    · rintro i d ρ hi ⟨p, spots, rows, s6, s9, hp, hsl, hsp, hrow, hlen, h6, h9, rfl⟩
      obtain ⟨d, e, rfl⟩ := dat_get hi
      have hi2 := (List.getElem?_eq_some_iff.mp e).1
      obtain ⟨b, rfl, hbr, hbl, hblast⟩ := hb i d e
      refine ⟨_, gNat (i := 9) rfl h9, ?_⟩
      show WB _ [.par p, .d (.str t), .d (.int params), .d (.tuple [.int s, .list L1, .list L2]), .d (.int many), .d (.list blocks), s6, .own spots, .own rows, .d (.list b), .un, .un] _
      refine wb_seq (wb_drop (wo_app rfl ?_))
      (repeat' (first | tb_start | fail))
      refine wo_ext rfl ?_
      (repeat' (first | tb_start | fail))
      refine ⟨_, _, _, rfl, rfl, by omega, nrm_id, ?_⟩
      refine ⟨p, spots ++ [.int rows.length], rows ++ b, s6, _, hp, by rw [List.length_append, hsl]; rfl, ?_, List.forall_mem_append.mpr ⟨hrow, hbr⟩, by rw [List.length_append]; omega, h6, rfl, rfl⟩
      have hbn : i + 1 = many → 1 ≤ b.length := fun z => by
        have := hblast z
        cases b with
        | nil => exact absurd rfl this
        | cons x r => simp only [List.length_cons]; omega
      refine List.forall_mem_append.mpr ⟨fun d m => ?_, all1 ⟨_, rfl, by omega, by rw [List.length_append]; omega, fun z => by rw [List.length_append]; have := hbn z; omega⟩⟩
      obtain ⟨j, rfl, h0, h1, h2⟩ := hsp d m
      exact ⟨j, rfl, h0, by rw [List.length_append]; omega, fun z => by rw [List.length_append]; have := hbn z; omega⟩
    · rintro ρ ⟨p, spots, rows, s6, s9, hp, hsl, hsp, hrow, hlen, h6, h9, rfl⟩
      rw [List.length_map, hl] at hsl hlen
      have hsp2 : ∀ d ∈ spots, ∃ j : Int, d = .int j ∧ 0 ≤ j ∧ j < rows.length := fun d m => by
        obtain ⟨j, e, h0, h1, h2⟩ := hsp d m
        exact ⟨j, e, h0, h2 (by rw [List.length_map, hl])⟩
      have htot : 1 ≤ rows.length := by
        cases spots with
        | nil => simp at hsl; omega
        | cons x r =>
          obtain ⟨j, _, h0, h1⟩ := hsp2 x List.mem_cons_self
          omega
      (repeat' (first | tb_start | fail))
      refine wb_for (wo_iter ?_)
      (repeat' (first | tb_start | fail))
      refine ⟨(fun _ z => nomatch z), rows, rfl, FndJ s rows.length many an fn (.str t) (.int params) (.tuple [.int s, .list L1, .list L2]) blocks spots rows s6 s9, ⟨p, [], _, .un, hp, rfl, fun _ z => (nomatch z), rfl, .inl rfl, rfl⟩, ?_, ?_⟩
      · rintro i d ρ hi ⟨p, found, s7, s11, hp, hfl, hfo, h11, h7, rfl⟩
        obtain ⟨d, e, rfl⟩ := dat_get hi
        have hi2 := (List.getElem?_eq_some_iff.mp e).1
        refine ⟨_, gNat (i := 11) rfl h11, ?_⟩
        show WB _ [.par p, .d (.str t), .d (.int params), .d (.tuple [.int s, .list L1, .list L2]), .d (.int many), .d (.list blocks), s6, s7, .d (.list rows), s9, .own found, .d d] _
        rcases row_cases (hrow d (List.mem_of_getElem? e)) with ⟨w, k, rfl, hw, hk0, hk1⟩ | ⟨w, r, rfl, hw, hall⟩
        · have hin : opIn (.str w) (.tuple [.str "jump", .str "jumpif"]) = some (.bool true) := congrArg (fun b => some (PyData.bool b)) hw
          have hwj : w = "jump" ∨ w = "jumpif" := by
            unfold isJ at hw
            rw [show [V.str "jump", .str "jumpif"] = ([("jump" : Str), "jumpif"] : List Str).map V.str from rfl, inS] at hw
            simpa using of_decide_eq_true hw
          rcases h7 with rfl | rfl
          all_goals
            refine wb_drop (wo_app rfl ?_)
            (repeat' (first | tb_start | fail))
            refine ix_use rfl rfl hsp2 hk0 (by omega) ?_
            rintro _ ⟨j, rfl, hj0, hj1⟩
            (repeat' (first | tb_start | fail))
            exact ⟨p, found ++ [_], _, _, hp, by rw [List.length_append, hfl]; rfl, List.forall_mem_append.mpr ⟨hfo, all1 (rb_jump hwj hj0 hj1 (by omega))⟩, rfl, (by first | exact .inl rfl | exact .inr rfl), rfl⟩
        · have hin : opIn (.str w) (.tuple [.str "jump", .str "jumpif"]) = some (.bool false) := congrArg (fun b => some (PyData.bool b)) hw
          have hix : opIx (.tuple (.str w :: r)) (.int 0) = some (.str w) := atI_nat (j := 0) rfl
          refine wb_drop (wo_app rfl ?_)
          (repeat' (first | tb_start | fail))
          exact ⟨p, found ++ [_], _, _, hp, by rw [List.length_append, hfl]; rfl, List.forall_mem_append.mpr ⟨hfo, all1 (hall _)⟩, rfl, h7, rfl⟩
      · rintro ρ ⟨p, found, s7, s11, hp, hfl, hfo, h11, h7, rfl⟩
        rw [List.length_map] at hfl
        (repeat' (first | tb_start | fail))
        refine .mk hp ⟨found, rfl, ?_, by omega, by omega⟩
        rw [hfl]
        exact hfo
end

/-! k16, the plain law, part K: plans that are drawn. -/
theorem ne_list {L : List PyData} (h1 : PyData.canLayAll0 L = true) (h2 : PyData.depthAll L ≤ 60) : opNe (.list L) (.list []) = some (.bool (decide ((0 : Int) < L.length))) := by
  have hs : SeqAt.shaped (.list L) = true := by
    show ((PyData.list L).canLay0 && decide ((PyData.list L).depth ≤ 64)) = true
    rw [show (PyData.list L).canLay0 = PyData.canLayAll0 L from rfl, h1]
    show decide (PyData.depthAll L + 1 ≤ 64) = true
    exact decide_eq_true (by omega)
  show Option.map (fun b => PyData.bool (!b)) (if (SeqAt.shaped (.list L) && SeqAt.shaped (.list [])) = true then some (PyData.eqv (.list L) (.list [])) else none) = _
  rw [hs, if_pos (by rfl)]
  cases L with
  | nil => rfl
  | cons d ds =>
    show some (PyData.bool (!PyData.eqvAll (d :: ds) [])) = _
    rw [show PyData.eqvAll (d :: ds) [] = false from rfl, decide_eq_true (show (0 : Int) < ((d :: ds).length : Nat) by simp only [List.length_cons]; omega)]
    rfl
/-- a pair of a name of a list and a small number -/
def PairN (ns : List Str) (lo hi : Int) (d : PyData) : Prop := ∃ (x : Str) (j : Int), d = .tuple [.str x, .int j] ∧ x ∈ ns ∧ (PyData.str x).canLay0 = true ∧ Fit 30 0 (.str x) ∧ lo ≤ j ∧ j ≤ hi
theorem lay2 {x : Str} {j : Int} (h : (PyData.str x).canLay0 = true) : (PyData.tuple [.str x, .int j]).canLay0 = true := by
  show (PyData.canLay0 (.str x) && (true && true)) = true
  rw [h]
  rfl
theorem pairs_lay {ns : List Str} {lo hi : Int} : ∀ {L : List PyData}, (∀ d ∈ L, PairN ns lo hi d) → PyData.canLayAll0 L = true ∧ PyData.depthAll L ≤ 1
  | [], _ => ⟨rfl, Nat.zero_le _⟩
  | d :: L, h => by
    obtain ⟨x, j, rfl, _, h1, _⟩ := h d List.mem_cons_self
    have h2 := pairs_lay (L := L) fun d m => h d (List.mem_cons_of_mem _ m)
    refine ⟨?_, ?_⟩
    · show (PyData.canLay0 _ && PyData.canLayAll0 L) = true
      rw [lay2 h1, h2.1]
      rfl
    · show Nat.max 1 (PyData.depthAll L) ≤ 1
      exact Nat.max_le.mpr ⟨Nat.le_refl _, h2.2⟩
/-- the arrays of a drawn plan -/
structure CellsB (C : List PyData) : Prop where
  ar : arraysD (.tuple C) = true
  len : C.length ≤ 2
  prs : ∀ d ∈ C, PairN (C.map keyD) 1 256 d
  nm : ∀ x ∈ C.map keyD, x ∈ ([("cells" : Str), "heap"] : List Str)
theorem cells_ok {k : Int} (h0 : 0 ≤ k) (h1 : k < 5) {n : Int} (hn0 : 0 ≤ n) (hn1 : n < 3) : CellsB (cutD [.tuple [.str "cells", .int (1 + k)], .tuple [.str "heap", .int 256]] none (some n)) := by
  have e : n = 0 ∨ n = 1 ∨ n = 2 := by omega
  have c1 : (PyData.str "cells").canLay0 = true := by decide +kernel
  have c2 : (PyData.str "heap").canLay0 = true := by decide +kernel
  have f1 : Fit 30 0 (.str "cells") := by top_raise0
  have f2 : Fit 30 0 (.str "heap") := by top_raise0
  have n1 : nameS "cells" = true := by decide +kernel
  have n2 : nameS "heap" = true := by decide +kernel
  have k1 : cntD 1 256 (.int (1 + k)) = true := Bool.and_eq_true_iff.mpr ⟨decide_eq_true (by omega), decide_eq_true (by omega)⟩
  rcases e with rfl | rfl | rfl
  · exact ⟨rfl, Nat.zero_le _, (fun _ m => nomatch m), fun _ m => nomatch m⟩
  · refine ⟨?_, Nat.le_of_ble_eq_true rfl, fun d m => ?_, fun x m => List.mem_append_left (bs := [("heap" : Str)]) (show x ∈ [("cells" : Str)] from m)⟩
    · show (decide ((1 : Int) ≤ 8) && (((nameS "cells" && cntD 1 256 (.int (1 + k))) && true) && ascS ["cells"])) = true
      rw [n1, k1]
      decide +kernel
    · rw [List.mem_singleton.mp m]
      exact ⟨"cells", 1 + k, rfl, List.mem_cons_self, c1, f1, by omega, by omega⟩
  · refine ⟨?_, Nat.le_of_ble_eq_true rfl, fun d m => ?_, fun x m => (show x ∈ [("cells" : Str), "heap"] from m)⟩
    · show (decide ((2 : Int) ≤ 8) && (((nameS "cells" && cntD 1 256 (.int (1 + k))) && ((nameS "heap" && cntD 1 256 (.int 256)) && true)) && ascS ["cells", "heap"])) = true
      rw [n1, k1, n2]
      decide +kernel
    · have m : d ∈ [PyData.tuple [.str "cells", .int (1 + k)], .tuple [.str "heap", .int 256]] := m
      rcases List.mem_cons.mp m with rfl | m
      · exact ⟨"cells", 1 + k, rfl, List.mem_cons_self, c1, f1, by omega, by omega⟩
      · rw [List.mem_singleton.mp m]
        exact ⟨"heap", 256, rfl, List.mem_cons_of_mem _ List.mem_cons_self, c2, f2, by omega, by omega⟩
theorem TitlesR.then {many : Nat} {D : FD} {as : List AV} {Q : RD → List (List PyData) → Prop} (h : WD D as (TitlesR many)) (q : ∀ (xs : List Str) (p : List PyData), PoolL p → xs.length = many → ascS xs = true → (∀ x ∈ xs, x ∈ ownL) → Q (.new (xs.map PyData.str)) [p]) : WD D as Q :=
  h.mono fun r os z => by
    cases z with
    | mk hp h1 h2 h3 => exact q _ _ hp h1 h2 h3
theorem FunR.then {t : Str} {params s : Int} {an fn : List Str} {D : FD} {as : List AV} {Q : RD → List (List PyData) → Prop} (h : WD D as (FunR t params s an fn)) (q : ∀ (d : PyData) (p : List PyData), PoolL p → FunB t params s an fn d → Q (.dat d) [p]) : WD D as Q :=
  h.mono fun r os z => by
    cases z with
    | mk hp h1 => exact q _ _ hp h1
/-- a function of a plan, its name t -/
def PartB (an fn : List Str) (t : Str) (d : PyData) : Prop := ∃ params s : Int, FunB t params s an fn d ∧ 0 ≤ params ∧ params ≤ 3 ∧ params ≤ s ∧ s ≤ 5
/-- a plan -/
structure PlanB (d : PyData) : Prop where
  ex : ∃ (C F : List PyData) (xs : List Str), d = .tuple [.tuple C, .tuple F] ∧ CellsB C ∧ F.length = xs.length ∧ 1 ≤ xs.length ∧ xs.length ≤ 4 ∧ ascS xs = true ∧ (∀ x ∈ xs, x ∈ ownL) ∧
    ∀ (k : Nat) (d : PyData), F[k]? = some d → ∃ t, xs[k]? = some t ∧ PartB (C.map keyD) xs t d
inductive PlanR : RD → List (List PyData) → Prop
  | mk {d : PyData} {p : List PyData} : PoolL p → PlanB d → PlanR (.dat d) [p]
theorem own_lay {x : Str} (h : x ∈ ownL) : (PyData.str x).canLay0 = true := by
  have : ∀ x ∈ ownL, (PyData.str x).canLay0 = true := by decide +kernel
  exact this x h
def fitB30 (x : Str) : Bool := okd (.str x) && decide ((PyData.str x).shown.length ≤ 30)
theorem own_fit {x : Str} (h : x ∈ ownL) : Fit 30 0 (.str x) := by
  have h2 : ownL.all fitB30 = true := by decide +kernel
  have h3 := Bool.and_eq_true_iff.mp (List.all_eq_true.mp h2 x h)
  exact Fit.str ⟨of_decide_eq_true h3.2, h3.1⟩
theorem own_name {x : Str} (h : x ∈ ownL) : nameS x = true := by
  have : ∀ x ∈ ownL, nameS x = true := by decide +kernel
  exact this x h
def tupIV : IV → PyData
  | .tup ds => .tuple ds
  | .dat x => x
theorem pairs_all {P : PyData → Prop} {A B : List PyData} (h : ∀ a b, a ∈ A → b ∈ B → P (.tuple [a, b])) : ∀ d ∈ (pairs A B).map tupIV, P d := fun d m => by
  obtain ⟨i, mi, rfl⟩ := List.mem_map.mp m
  obtain ⟨k, hk⟩ := List.mem_iff_getElem?.mp mi
  obtain ⟨a, b, ha, hb, rfl⟩ := pairs_get hk
  exact h a b (List.mem_of_getElem? ha) (List.mem_of_getElem? hb)
theorem pairs_len' : ∀ (A B : List PyData), (pairs A B).length = min A.length B.length
  | [], B => by simp [pairs]
  | a :: A, [] => by simp [pairs]
  | a :: A, b :: B => by
    show (pairs A B).length + 1 = _
    rw [pairs_len' A B, List.length_cons, List.length_cons]
    omega
def SizesP (i : Nat) (acc : List PyData) : Prop := acc.length = i ∧ ∀ d ∈ acc, ∃ j : Int, d = .int j ∧ 0 ≤ j ∧ j ≤ 3
def PlnJ (C : List PyData) (xs : List Str) (sizes : List PyData) (most : Int) (many : Nat) (i : Nat) (ρ : List SV) : Prop :=
  ∃ (p found : List PyData) (s3 s6 s8 s9 : SV), PoolL p ∧ found.length = i ∧ (∀ (k : Nat) (d : PyData), found[k]? = some d → ∃ t, xs[k]? = some t ∧ PartB (C.map keyD) xs t d) ∧ (s3 = .own C ∨ s3 = .d (.list C)) ∧ isPar s6 = false ∧ isPar s8 = false ∧ isPar s9 = false ∧
    ρ = [.par p, .d (.int most), .d (.int many), s3, .d (.list (xs.map PyData.str)), .d (.list sizes), s6, .own found, s8, s9, .un, .un]
theorem gn68 {a0 a1 a2 a3 a4 a5 s6 a7 s8 a9 a10 a11 : SV} {x y : PyData} (h6 : isPar s6 = false) (h8 : isPar s8 = false) : (gTup' 2 (gCons' (gN' 6) (gCons' (gN' 8) gNil'))) (.tup [x, y]) [a0, a1, a2, a3, a4, a5, s6, a7, s8, a9, a10, a11] = some [a0, a1, a2, a3, a4, a5, .d x, a7, .d y, a9, a10, a11] := by
  show (gN' 6 (.dat x) _).bind _ = _
  rw [gNat (i := 6) (s := s6) rfl h6]
  show (gN' 8 (.dat y) _).bind _ = _
  rw [gNat (i := 8) (s := s8) rfl h8]
  rfl
theorem e_law_plan {p : List PyData} {many : Nat} (hp : PoolL p) (hm0 : 1 ≤ many) (hm : many ≤ 9) : WD D_law_plan [.io p, .dat (.int 3), .dat (.int many)] PlanR := by
  refine wd_run' rfl rfl (by (first | top_name | fail)) ?_
  (repeat' (first | tb_start | fail))
  rename_i kc pc hpc hc0 hc1 kn pn hpn hn0 hn1 kt pt hpt ht0 ht1
  have hC := cells_ok hc0 hc1 hn0 hn1
  generalize cutD [.tuple [.str "cells", .int (1 + kc)], .tuple [.str "heap", .int 256]] none (some kn) = C at hC ⊢
  obtain ⟨T, rfl⟩ := Int.eq_ofNat_of_zero_le ht0
  have eT : (1 : Int) + (T : Nat) = ((1 + T : Nat) : Int) := by omega
  rw [eT]
  refine TitlesR.then (e_law_titles hpt (by omega)) fun xs p hp hxl hasc hown => ?_
  (with_unfolding_all (first | refine outs_par0 ?_ | skip))
  (repeat' (first | tb_start | fail))
  refine wo_lcP SizesP (wo_iter ?_)
  (repeat' (first | tb_start | fail))
  refine ⟨(fun _ z => nomatch z), _, rfl, p, _, rfl, by rw [List.length_map, List.length_map]; omega, by (first | top_name | fail), hp, ?_, ⟨rfl, fun _ z => nomatch z⟩, ?_⟩
  · rintro i d p acc hi hp ⟨hl, ha⟩
    obtain ⟨d, e, rfl⟩ := dat_get hi
    refine ⟨_, rfl, ?_⟩
    (repeat' (first | tb_start | fail))
    exact ⟨_, by assumption, ⟨by rw [List.length_append, hl]; rfl, List.forall_mem_append.mpr ⟨ha, all1 ⟨_, rfl, by assumption, by omega⟩⟩⟩, rfl⟩
  · rintro sizes p hp ⟨hl, hs⟩
    rw [List.length_map, List.length_map] at hl
    refine ⟨_, by (first | top_name | fail), ?_⟩
    (repeat' (first | tb_start | fail))
    refine wb_for (wo_zip ?_)
    (repeat' (first | tb_start | fail))
    refine ⟨PlnJ C xs sizes 3 many, ⟨p, [], _, _, _, _, hp, rfl, (fun k d e => nomatch e), .inl rfl, rfl, rfl, rfl, rfl⟩, ?_, ?_⟩
    · rintro i d ρ hi ⟨p, found, s3, s6, s8, s9, hp, hfl, hfo, h3, h6, h8, h9, rfl⟩
      obtain ⟨x, y, hx, hy, rfl⟩ := pairs_get hi
      rw [List.getElem?_map] at hx
      cases ex : xs[i]? with
      | none =>
        rw [ex] at hx
        cases hx
      | some t =>
        rw [ex] at hx
        cases hx
        have hix := (List.getElem?_eq_some_iff.mp ex).1
        obtain ⟨j, rfl, hj0, hj1⟩ := hs y (List.mem_of_getElem? hy)
        refine ⟨_, gn68 h6 h8, ?_⟩
        have hpr : ∀ d ∈ (pairs (xs.map PyData.str) sizes).map tupIV, PairN xs 0 3 d := pairs_all fun a b ha hb => by
          obtain ⟨z, mz, rfl⟩ := List.mem_map.mp ha
          obtain ⟨j, rfl, h0, h1⟩ := hs b hb
          exact ⟨z, j, rfl, mz, own_lay (hown z mz), own_fit (hown z mz), h0, h1⟩
        have hll : ((pairs (xs.map PyData.str) sizes).map tupIV).length ≤ 1000 := by
          rw [List.length_map, pairs_len', List.length_map]
          omega
        have a1 := pairs_lay hC.prs
        have a2 := pairs_lay hpr
        have room : ∀ k : Int, 0 ≤ k → k < 3 → RoomG (j + k) (C.map keyD) xs C ((pairs (xs.map PyData.str) sizes).map tupIV) := fun k h0 h1 => by
          refine ⟨by omega, by omega, fun d m => ?_, fun d m => ?_, by have := hC.len; omega, hll, ne_list a1.1 (by omega), ne_list a2.1 (by omega)⟩
          · obtain ⟨x, i, e, mx, _, f, b0, b1⟩ := hC.prs d m
            exact ⟨x, i, e, mx, f, b0, b1⟩
          · obtain ⟨x, i, e, mx, _, f, b0, b1⟩ := hpr d m
            exact ⟨x, i, e, mx, f, b0, b1⟩
        rcases h3 with rfl | rfl
        all_goals
          refine wb_seq (wb_set ?_)
          (repeat' (first | tb_start | fail))
          rename_i k p hp hk0 hk1
          refine wo_map tupIV (wo_zip ?_)
          (repeat' (first | tb_start | fail))
          refine ⟨rfl, by rw [pairs_len', List.length_map]; omega, _, by (first | top_name | fail), fun d m => ?_, _, by (first | top_name | fail), ?_⟩
          · obtain ⟨q, hq⟩ := List.mem_iff_getElem?.mp m
            obtain ⟨a, b, ha, hb, rfl⟩ := pairs_get hq
            refine ⟨_, rfl, ?_⟩
            (repeat' (first | tb_start | fail))
            exact ⟨rfl, rfl⟩
          · (repeat' (first | tb_start | fail))
            rename_i k2 p2 hp2 hk20 hk21
            obtain ⟨K, rfl⟩ := Int.eq_ofNat_of_zero_le hk20
            have eK : (1 : Int) + (K : Nat) = ((1 + K : Nat) : Int) := by omega
            rw [eK]
            refine FunR.then (e_law_sound (room k hk0 hk1) hp2 (by omega) (by omega)) fun d p hp hd => ?_
            (with_unfolding_all (first | refine outs_par0 ?_ | skip))
            (repeat' (first | tb_start | fail))
            refine ⟨p, found ++ [d], _, _, _, _, hp, by rw [List.length_append, hfl]; rfl, fun q e he => ?_, .inr rfl, rfl, rfl, rfl, rfl⟩
            by_cases hq : q < found.length
            · rw [List.getElem?_append_left hq] at he
              exact hfo q e he
            · have hq2 : q = found.length := by
                have := (List.getElem?_eq_some_iff.mp he).1
                rw [List.length_append] at this
                have : q < found.length + 1 := this
                omega
              subst hq2
              rw [List.getElem?_append_right (Nat.le_refl _), Nat.sub_self] at he
              cases he
              rw [hfl]
              exact ⟨t, ex, j, j + k, hd, hj0, hj1, by omega, by omega⟩
    · rintro ρ ⟨p, found, s3, s6, s8, s9, hp, hfl, hfo, h3, h6, h8, h9, rfl⟩
      rw [pairs_len', List.length_map, hl, Nat.min_self] at hfl
      rcases h3 with rfl | rfl
      all_goals
        (repeat' (first | tb_start | fail))
        exact .mk hp ⟨C, found, xs, rfl, hC, hfl, by omega, by omega, hasc, hown, hfo⟩

/-! k16, the plain law, part L: a drawn plan is code; plans whose instructions are exchanged. -/
theorem FunB.hd {t : Str} {params s : Int} {an fn : List Str} {d : PyData} (h : FunB t params s an fn d) (ht : t ∈ ownL) (h0 : 0 ≤ params) (h1 : params ≤ 3) (h2 : params ≤ s) (h3 : s ≤ 5) : hdD d = true ∧ keyD d = t ∧ rowsOk an fn d = true ∧ Fit 42000 4 d := by
  obtain ⟨rows, rfl, hr, hl0, hl1⟩ := h.ex
  refine ⟨?_, rfl, ?_, ?_⟩
  · show (nameS t && (cntD 0 6 (.int params) && (cntD params 200 (.int s) && (decide ((1 : Int) ≤ rows.length) && decide ((rows.length : Int) ≤ 10000))))) = true
    rw [own_name ht, show cntD 0 6 (.int params) = true from Bool.and_eq_true_iff.mpr ⟨decide_eq_true h0, decide_eq_true (by omega)⟩, show cntD params 200 (.int s) = true from Bool.and_eq_true_iff.mpr ⟨decide_eq_true h2, decide_eq_true (by omega)⟩, decide_eq_true (show (1 : Int) ≤ rows.length by omega), decide_eq_true (show (rows.length : Int) ≤ 10000 by omega)]
    rfl
  · show rows.all (insD s rows.length an fn) = true
    exact List.all_eq_true.mpr fun e m => (hr e m).1
  · have hf := fit_all fun e m => (hr e m).2
    have hb : (100 + 2) * rows.length ≤ (100 + 2) * 400 := Nat.mul_le_mul_left _ hl1
    exact Fit.mono (fit4 (m := 2) ((own_fit ht).up (by decide)) (int_fit (by omega) (by omega)) (int_fit (by omega) (by omega)) (Fit.tup' hf)) (by omega) (by decide)
theorem plan_good {d : PyData} (h : PlanB d) : codeD d = true ∧ Goo3 d := by
  obtain ⟨C, F, xs, rfl, hC, hl, hx0, hx1, hasc, hown, hF⟩ := h.ex
  have hk : F.map keyD = xs := by
    refine List.ext_getElem? fun k => ?_
    rw [List.getElem?_map]
    cases e : F[k]? with
    | none =>
      have := List.getElem?_eq_none_iff.mp e
      rw [List.getElem?_eq_none (by omega)]
      rfl
    | some d =>
      obtain ⟨t, ht, params, s, hf, h0, h1, h2, h3⟩ := hF k d e
      rw [ht]
      exact congrArg some (hf.hd (hown t (List.mem_of_getElem? ht)) h0 h1 h2 h3).2.1
  have hall : ∀ d ∈ F, hdD d = true ∧ rowsOk (C.map keyD) xs d = true ∧ Fit 42000 4 d := fun d m => by
    obtain ⟨k, e⟩ := List.mem_iff_getElem?.mp m
    obtain ⟨t, ht, params, s, hf, h0, h1, h2, h3⟩ := hF k d e
    have := hf.hd (hown t (List.mem_of_getElem? ht)) h0 h1 h2 h3
    exact ⟨this.1, this.2.2.1, this.2.2.2⟩
  refine ⟨?_, ?_⟩
  · rw [code_2, hC.ar, hk, hasc, decide_eq_true (show (1 : Int) ≤ F.length by omega), decide_eq_true (show (F.length : Int) ≤ 12 by omega), List.all_eq_true.mpr fun d m => (hall d m).1]
    show F.all (rowsOk (C.map keyD) xs) = true
    exact List.all_eq_true.mpr fun d m => (hall d m).2.1
  · have f1 := fit_all (ds := C) (n := 100) (k := 1) fun d m => by
      obtain ⟨x, j, rfl, _, _, f, b0, b1⟩ := hC.prs d m
      exact Fit.mono (fit2 (m := 0) f (int_fit (by omega) (by omega))) (by decide) (by decide)
    have f2 := fit_all fun d m => (hall d m).2.2
    have b1 : (100 + 2) * C.length ≤ (100 + 2) * 2 := Nat.mul_le_mul_left _ hC.len
    have b2 : (42000 + 2) * F.length ≤ (42000 + 2) * 4 := Nat.mul_le_mul_left _ (by omega)
    exact ⟨Fit.mono (fit2 (m := 5) ((Fit.tup' f1).up (by decide)) (Fit.tup' f2)) (by show _ ≤ 4000000; omega) (by decide)⟩
/-! exchanged instructions -/
/-! k15, the plain law: bounds worked out; things in the place of an instruction. -/
mutual
/-- bounds of a datum's text and depth, worked out -/
def fitD : PyData → Option (Nat × Nat)
  | .none => some (4, 0)
  | .bool _ => some (5, 0)
  | .int i => if i.natAbs < 2 ^ 40 then some (42, 0) else if i.natAbs < 2 ^ 200 then some (202, 0) else none
  | .str x => if (okd (.str x) && decide ((PyData.str x).shown.length ≤ 30)) = true then some (30, 0) else none
  | .tuple ds => (fitsD ds).map fun p => (p.1 + 4, p.2 + 1)
  | .list ds => (fitsD ds).map fun p => (p.1 + 4, p.2 + 1)
  | .dict kvs => if kvs.isEmpty = true then some (2, 1) else none
def fitsD : List PyData → Option (Nat × Nat)
  | [] => some (0, 0)
  | d :: ds => match fitD d with
    | none => none
    | some a => match fitsD ds with
      | none => none
      | some b => some (a.1 + 2 + b.1, Nat.max a.2 b.2)
end
mutual
theorem fitD_ok : ∀ (d : PyData) (n m : Nat), fitD d = some (n, m) → Fit n m d
  | .none, n, m, h => by
    unfold fitD at h
    cases h
    exact Fit.non'
  | .bool b, n, m, h => by
    unfold fitD at h
    cases h
    exact Fit.bl'
  | .int i, n, m, h => by
    unfold fitD at h
    split at h
    · cases h
      exact Fit.int' (by assumption)
    · split at h
      · cases h
        exact Fit.intW (by assumption) (Nat.le_refl _)
      · cases h
  | .str x, n, m, h => by
    unfold fitD at h
    split at h
    · rename_i c
      have c := Bool.and_eq_true_iff.mp c
      cases h
      exact Fit.str ⟨of_decide_eq_true c.2, c.1⟩
    · cases h
  | .tuple ds, n, m, h => by
    unfold fitD at h
    cases e : fitsD ds with
    | none =>
      rw [e] at h
      cases h
    | some p =>
      rw [e] at h
      cases h
      exact Fit.tup' (fitsD_ok ds _ _ e)
  | .list ds, n, m, h => by
    unfold fitD at h
    cases e : fitsD ds with
    | none =>
      rw [e] at h
      cases h
    | some p =>
      rw [e] at h
      cases h
      exact Fit.lst' (fitsD_ok ds _ _ e)
  | .dict [], n, m, h => by
    unfold fitD at h
    rw [if_pos (by rfl)] at h
    cases h
    exact Fit.dct (Nat.le_refl _) (Nat.le_refl _)
  | .dict (kv :: kvs), n, m, h => by
    unfold fitD at h
    rw [if_neg (by exact Bool.false_ne_true)] at h
    cases h
theorem fitsD_ok : ∀ (ds : List PyData) (n m : Nat), fitsD ds = some (n, m) → FitAll n m ds
  | [], n, m, h => by
    unfold fitsD at h
    cases h
    exact FitAll.nil'
  | d :: ds, n, m, h => by
    unfold fitsD at h
    cases e1 : fitD d with
    | none =>
      rw [e1] at h
      cases h
    | some a =>
      cases e2 : fitsD ds with
      | none =>
        rw [e1, e2] at h
        cases h
      | some b =>
        rw [e1, e2] at h
        cases h
        exact FitAll.cons ((fitD_ok d _ _ e1).mono (Nat.le_refl _) (Nat.le_max_left _ _)) ((fitsD_ok ds _ _ e2).mono (Nat.le_refl _) (Nat.le_max_right _ _)) (Nat.le_refl _)
end
def oddB (d : PyData) : Bool := match fitD d with
  | some (n, m) => decide (n ≤ 200) && decide (m ≤ 4)
  | none => false
theorem odd1 {d : PyData} (h : oddB d = true) : Fit 200 4 d := by
  unfold oddB at h
  split at h
  · rename_i n k e
    have h := Bool.and_eq_true_iff.mp h
    exact (fitD_ok d n k e).mono (of_decide_eq_true h.1) (of_decide_eq_true h.2)
  · cases h
inductive FitR (n m : Nat) : RD → List (List PyData) → Prop
  | mk {d : PyData} {p : List PyData} : PoolL p → Fit n m d → FitR n m (.dat d) [p]
theorem FitR.then {n m : Nat} {D : FD} {as : List AV} {Q : RD → List (List PyData) → Prop} (h : WD D as (FitR n m)) (q : ∀ d p, PoolL p → Fit n m d → Q (.dat d) [p]) : WD D as Q :=
  h.mono fun r os z => by
    cases z with
    | mk hp hf => exact q _ _ hp hf
theorem fv1 {a : PyData} (h : Fit 50 2 a) : Fit 200 4 (.tuple [a]) := (fit1 h).mono (by decide) (by decide)
theorem fv2 {a b : PyData} (h : Fit 50 2 a) (h2 : Fit 50 2 b) : Fit 200 4 (.tuple [a, b]) := (fit2 h h2).mono (by decide) (by decide)
theorem fv3 {a b c : PyData} (h : Fit 50 2 a) (h2 : Fit 50 2 b) (h3 : Fit 50 2 c) : Fit 200 4 (.tuple [a, b, c]) := (Fit.tup' (FitAll.cons' h (FitAll.cons' h2 (FitAll.cons' h3 FitAll.nil')))).mono (by decide) (by decide)
theorem fvl {a : PyData} (h : Fit 30 1 a) : Fit 50 2 (.list [a]) := (Fit.lst' (FitAll.cons' h FitAll.nil')).mono (by decide) (by decide)
theorem e_law_odd_row {p : List PyData} {s n : Int} {t : Str} (hp : PoolL p) (hs0 : 0 ≤ s) (hs1 : s ≤ 10) (hn0 : 0 ≤ n) (hn1 : n ≤ 1000) (ht : Fit 30 0 (.str t)) : WD D_law_odd_row [.io p, .dat (.int s), .dat (.int n), .dat (.str t)] (FitR 200 4) := by
  refine wd_run' rfl rfl (by (first | top_name | fail)) ?_
  (repeat' (first | tb_start | fail))
  refine draw_then hp (by show (0 : Int) < ((69 : Nat) : Int); decide) (by show ((69 : Nat) : Int) < 2 ^ 200; decide) fun k p hp h0 h1 => ?_
  (with_unfolding_all (first | refine outs_par0 ?_ | skip))
  (repeat' (first | tb_start | fail))
  refine ix_use (P := Fit 200 4) rfl rfl ?_ (by assumption) (by assumption) fun d hf => ?_
  · simp only [List.cons_append, List.nil_append, List.forall_mem_cons]
    repeat' (first | refine And.intro ?_ ?_ | (first | exact odd1 (by decide +kernel) | exact fv1 (by (first | exact Fit.str (n := 50) ⟨by decide +kernel, by decide +kernel⟩ | exact Fit.mono (int_fit (m := 0) (by omega) (by omega)) (by decide) (by decide) | exact Fit.mono (by assumption) (by decide) (by decide) | exact fvl (Fit.mono (by assumption) (by decide) (by decide)) | exact (Fit.tup' (m := 0) FitAll.nil').mono (by decide) (by decide) | exact Fit.bl (by decide) | exact Fit.non (by decide) | fail)) | exact fv2 (by (first | exact Fit.str (n := 50) ⟨by decide +kernel, by decide +kernel⟩ | exact Fit.mono (int_fit (m := 0) (by omega) (by omega)) (by decide) (by decide) | exact Fit.mono (by assumption) (by decide) (by decide) | exact fvl (Fit.mono (by assumption) (by decide) (by decide)) | exact (Fit.tup' (m := 0) FitAll.nil').mono (by decide) (by decide) | exact Fit.bl (by decide) | exact Fit.non (by decide) | fail)) (by (first | exact Fit.str (n := 50) ⟨by decide +kernel, by decide +kernel⟩ | exact Fit.mono (int_fit (m := 0) (by omega) (by omega)) (by decide) (by decide) | exact Fit.mono (by assumption) (by decide) (by decide) | exact fvl (Fit.mono (by assumption) (by decide) (by decide)) | exact (Fit.tup' (m := 0) FitAll.nil').mono (by decide) (by decide) | exact Fit.bl (by decide) | exact Fit.non (by decide) | fail)) | exact fv3 (by (first | exact Fit.str (n := 50) ⟨by decide +kernel, by decide +kernel⟩ | exact Fit.mono (int_fit (m := 0) (by omega) (by omega)) (by decide) (by decide) | exact Fit.mono (by assumption) (by decide) (by decide) | exact fvl (Fit.mono (by assumption) (by decide) (by decide)) | exact (Fit.tup' (m := 0) FitAll.nil').mono (by decide) (by decide) | exact Fit.bl (by decide) | exact Fit.non (by decide) | fail)) (by (first | exact Fit.str (n := 50) ⟨by decide +kernel, by decide +kernel⟩ | exact Fit.mono (int_fit (m := 0) (by omega) (by omega)) (by decide) (by decide) | exact Fit.mono (by assumption) (by decide) (by decide) | exact fvl (Fit.mono (by assumption) (by decide) (by decide)) | exact (Fit.tup' (m := 0) FitAll.nil').mono (by decide) (by decide) | exact Fit.bl (by decide) | exact Fit.non (by decide) | fail)) (by (first | exact Fit.str (n := 50) ⟨by decide +kernel, by decide +kernel⟩ | exact Fit.mono (int_fit (m := 0) (by omega) (by omega)) (by decide) (by decide) | exact Fit.mono (by assumption) (by decide) (by decide) | exact fvl (Fit.mono (by assumption) (by decide) (by decide)) | exact (Fit.tup' (m := 0) FitAll.nil').mono (by decide) (by decide) | exact Fit.bl (by decide) | exact Fit.non (by decide) | fail)) | fail) | (intro d m; cases m; done))
  · (repeat' (first | tb_start | fail))
    exact .mk (by assumption) hf

/-! k15, the plain law: functions put otherwise. -/
theorem row_tup {s n : Int} {an fn : List Str} {d : PyData} (h : RowB s n an fn d) : ∃ ds, d = .tuple ds := by
  rcases row_cases h with ⟨w, k, rfl, _⟩ | ⟨w, r, rfl, _⟩ <;> exact ⟨_, rfl⟩
/-- a function of a plan, by its bounds -/
structure FnF (d : PyData) (t : Str) (p s : Int) (rows : List PyData) : Prop where
  eq : d = .tuple [.str t, .int p, .int s, .tuple rows]
  tt : t ∈ ownL
  p0 : 0 ≤ p
  p1 : p ≤ 3
  s0 : 0 ≤ s
  s1 : s ≤ 5
  r0 : 1 ≤ rows.length
  r1 : rows.length ≤ 400
  rf : ∀ e ∈ rows, Fit 100 1 e ∧ ∃ ds, e = .tuple ds
theorem FnF.rows {d : PyData} {t : Str} {p s : Int} {rows : List PyData} (h : FnF d t p s rows) : FitAll 41000 1 rows := by
  have h1 := fit_all fun e m => (h.rf e m).1
  have h2 : (100 + 2) * rows.length ≤ (100 + 2) * 400 := Nat.mul_le_mul_left _ h.r1
  exact h1.mono (by omega) (Nat.le_refl _)
theorem FnF.fit {d : PyData} {t : Str} {p s : Int} {rows : List PyData} (h : FnF d t p s rows) : Fit 42000 4 d := by
  have h1 := h.p0
  have h2 := h.p1
  have h3 := h.s0
  have h4 := h.s1
  rw [h.eq]
  exact Fit.mono (fit4 (m := 2) ((own_fit h.tt).up (by decide)) (int_fit (by omega) (by omega)) (int_fit (by omega) (by omega)) (Fit.tup' h.rows)) (by omega) (by decide)
theorem str_at {s : Int} (h : s.natAbs.log2 < 1920) : opStr [.int s] = some (.str (toString s)) := if_pos h
theorem str_small {s : Int} (h0 : 0 ≤ s) (h1 : s ≤ 5) : ∃ w : Str, opStr [.int s] = some (.str w) ∧ Fit 30 0 (.str w) := by
  have e : s = 0 ∨ s = 1 ∨ s = 2 ∨ s = 3 ∨ s = 4 ∨ s = 5 := by omega
  rcases e with rfl | rfl | rfl | rfl | rfl | rfl
  · exact ⟨_, str_at (by decide +kernel), Fit.str (n := 30) ⟨by decide +kernel, by decide +kernel⟩⟩
  · exact ⟨_, str_at (by decide +kernel), Fit.str (n := 30) ⟨by decide +kernel, by decide +kernel⟩⟩
  · exact ⟨_, str_at (by decide +kernel), Fit.str (n := 30) ⟨by decide +kernel, by decide +kernel⟩⟩
  · exact ⟨_, str_at (by decide +kernel), Fit.str (n := 30) ⟨by decide +kernel, by decide +kernel⟩⟩
  · exact ⟨_, str_at (by decide +kernel), Fit.str (n := 30) ⟨by decide +kernel, by decide +kernel⟩⟩
  · exact ⟨_, str_at (by decide +kernel), Fit.str (n := 30) ⟨by decide +kernel, by decide +kernel⟩⟩
def fitB50 (x : Str) : Bool := okd (.str x) && decide ((PyData.str x).shown.length ≤ 50)
theorem own_far {x : Str} (h : x ∈ ownL) : Fit 50 0 (.str (x ++ "abcdefghijkl")) ∧ opAdd (.str x) (.str "abcdefghijkl") = some (.str (x ++ "abcdefghijkl")) := by
  have h2 : ownL.all (fun x => fitB50 (x ++ "abcdefghijkl") && decide (x.length + ("abcdefghijkl" : Str).length ≤ 4000000)) = true := by decide +kernel
  have h3 := Bool.and_eq_true_iff.mp (List.all_eq_true.mp h2 x h)
  have h4 := Bool.and_eq_true_iff.mp h3.1
  exact ⟨Fit.str ⟨of_decide_eq_true h4.2, h4.1⟩, if_pos (of_decide_eq_true h3.2)⟩
theorem FitAll.takeK {n m : Nat} {ds : List PyData} (h : FitAll n m ds) (k : Nat) : FitAll n m (ds.take k) := by
  obtain ⟨a, b, e, h1, _⟩ := FitAll.split k h
  exact h1.mono (by omega) (Nat.le_refl _)
theorem FitAll.dropK {n m : Nat} {ds : List PyData} (h : FitAll n m ds) (k : Nat) : FitAll n m (ds.drop k) := by
  obtain ⟨a, b, e, _, h1⟩ := FitAll.split k h
  exact h1.mono (by omega) (Nat.le_refl _)
theorem FitAll.cut {n m : Nat} {ds : List PyData} (h : FitAll n m ds) (lo hi : Option Int) : FitAll n m (cutD ds lo hi) := by
  unfold cutD
  exact (h.dropK _).takeK _
theorem fit_items {n k : Nat} {ds : List PyData} (h : Fit n (k + 1) (.tuple ds)) : FitAll n k ds := by
  have h1 : (tupleText (PyData.shownAll ds)).length ≤ n := h.len
  have h2 := piled_le_tuple (ts := PyData.shownAll ds)
  have h4 : PyData.depthAll ds + 1 ≤ k + 1 := h.dep
  exact ⟨h.sh, by omega, by omega, h.ok⟩
theorem cut_lenB {ds : List PyData} {lo hi : Option Int} : (cutD ds lo hi).length ≤ ds.length := by
  unfold cutD
  rw [List.length_take, List.length_drop]
  omega
def HeadB (d : PyData) : Prop := ∃ ds, d = .tuple ds ∧ ds.length ≤ 4 ∧ FitAll 300 1 ds
theorem hb2 {a b : PyData} (h : Fit 50 1 a) (h2 : Fit 50 1 b) : HeadB (.tuple [a, b]) := ⟨_, rfl, Nat.le_of_ble_eq_true rfl, (FitAll.cons' h (FitAll.cons' h2 FitAll.nil')).mono (by decide) (by decide)⟩
theorem hb3 {a b c : PyData} (h : Fit 50 1 a) (h2 : Fit 50 1 b) (h3 : Fit 50 1 c) : HeadB (.tuple [a, b, c]) := ⟨_, rfl, Nat.le_of_ble_eq_true rfl, (FitAll.cons' h (FitAll.cons' h2 (FitAll.cons' h3 FitAll.nil'))).mono (by decide) (by decide)⟩
theorem hb4 {a b c d : PyData} (h : Fit 50 1 a) (h2 : Fit 50 1 b) (h3 : Fit 50 1 c) (h4 : Fit 50 1 d) : HeadB (.tuple [a, b, c, d]) := ⟨_, rfl, Nat.le_of_ble_eq_true rfl, (FitAll.cons' h (FitAll.cons' h2 (FitAll.cons' h3 (FitAll.cons' h4 FitAll.nil')))).mono (by decide) (by decide)⟩
local macro_rules | `(tactic| tb_rel) => `(tactic| with_unfolding_all (refine ⟨_, _, rfl, Nat.le_of_ble_eq_true rfl, by (first | top_name | fail), ?_⟩))
theorem e_law_bent_part {q : List PyData} {d : PyData} {t : Str} {p s : Int} {rows : List PyData} (hq : PoolL q) (h : FnF d t p s rows) : WD D_law_bent_part [.io q, .dat d] (FitR 43000 5) := by
  obtain ⟨w, hw, hwf⟩ := str_small h.s0 h.s1
  obtain ⟨hx, hxa⟩ := own_far h.tt
  have ht := own_fit h.tt
  have hr := h.rows
  have hp0 := h.p0
  have hp1 := h.p1
  have hs0 := h.s0
  have hs1 := h.s1
  have hl := h.r1
  obtain ⟨eq, _, _, _, _, _, hl0, _, rf⟩ := h
  subst eq
  cases rows with
  | nil => exact absurd hl0 (by decide)
  | cons r0 rest =>
    obtain ⟨hr0, r0s, rfl⟩ := rf r0 List.mem_cons_self
    have hix : opIx (.tuple (.tuple r0s :: rest)) (.int 0) = some (.tuple r0s) := ix_hd
    have hct : opSl (.tuple (.tuple r0s :: rest)) (some 1) none = some (.tuple rest) := congrArg (fun l => some (PyData.tuple l)) cut_tail
    have had : opAdd (.tuple [.list r0s]) (.tuple rest) = some (.tuple (.list r0s :: rest)) := if_pos (by show 1 + rest.length ≤ 4000000; rw [List.length_cons] at hl; omega)
    refine wd_run' rfl rfl (by (first | top_name | fail)) ?_
    (repeat' (first | tb_start | fail))
    · refine ix_use (P := HeadB) rfl rfl ?_ (by assumption) (by assumption) ?_
      · simp only [List.cons_append, List.nil_append, List.forall_mem_cons]
        repeat' (first | refine And.intro ?_ ?_ | (first | exact hb3 (by (first | exact Fit.str (n := 50) ⟨by decide +kernel, by decide +kernel⟩ | exact Fit.mono (int_fit (m := 0) (by omega) (by omega)) (by decide) (by decide) | exact Fit.mono (by assumption) (by decide) (by decide) | exact Fit.bl (by decide) | exact Fit.non (by decide) | fail)) (by (first | exact Fit.str (n := 50) ⟨by decide +kernel, by decide +kernel⟩ | exact Fit.mono (int_fit (m := 0) (by omega) (by omega)) (by decide) (by decide) | exact Fit.mono (by assumption) (by decide) (by decide) | exact Fit.bl (by decide) | exact Fit.non (by decide) | fail)) (by (first | exact Fit.str (n := 50) ⟨by decide +kernel, by decide +kernel⟩ | exact Fit.mono (int_fit (m := 0) (by omega) (by omega)) (by decide) (by decide) | exact Fit.mono (by assumption) (by decide) (by decide) | exact Fit.bl (by decide) | exact Fit.non (by decide) | fail)) | exact hb2 (by (first | exact Fit.str (n := 50) ⟨by decide +kernel, by decide +kernel⟩ | exact Fit.mono (int_fit (m := 0) (by omega) (by omega)) (by decide) (by decide) | exact Fit.mono (by assumption) (by decide) (by decide) | exact Fit.bl (by decide) | exact Fit.non (by decide) | fail)) (by (first | exact Fit.str (n := 50) ⟨by decide +kernel, by decide +kernel⟩ | exact Fit.mono (int_fit (m := 0) (by omega) (by omega)) (by decide) (by decide) | exact Fit.mono (by assumption) (by decide) (by decide) | exact Fit.bl (by decide) | exact Fit.non (by decide) | fail)) | exact hb4 (by (first | exact Fit.str (n := 50) ⟨by decide +kernel, by decide +kernel⟩ | exact Fit.mono (int_fit (m := 0) (by omega) (by omega)) (by decide) (by decide) | exact Fit.mono (by assumption) (by decide) (by decide) | exact Fit.bl (by decide) | exact Fit.non (by decide) | fail)) (by (first | exact Fit.str (n := 50) ⟨by decide +kernel, by decide +kernel⟩ | exact Fit.mono (int_fit (m := 0) (by omega) (by omega)) (by decide) (by decide) | exact Fit.mono (by assumption) (by decide) (by decide) | exact Fit.bl (by decide) | exact Fit.non (by decide) | fail)) (by (first | exact Fit.str (n := 50) ⟨by decide +kernel, by decide +kernel⟩ | exact Fit.mono (int_fit (m := 0) (by omega) (by omega)) (by decide) (by decide) | exact Fit.mono (by assumption) (by decide) (by decide) | exact Fit.bl (by decide) | exact Fit.non (by decide) | fail)) (by (first | exact Fit.str (n := 50) ⟨by decide +kernel, by decide +kernel⟩ | exact Fit.mono (int_fit (m := 0) (by omega) (by omega)) (by decide) (by decide) | exact Fit.mono (by assumption) (by decide) (by decide) | exact Fit.bl (by decide) | exact Fit.non (by decide) | fail)) | fail) | (intro d m; cases m; done))
      · rintro _ ⟨ds, rfl, hl4, hfd⟩
        have ho : opAdd (.tuple ds) (.tuple [.tuple (.tuple r0s :: rest)]) = some (.tuple (ds ++ [.tuple (.tuple r0s :: rest)])) := if_pos (by show ds.length + 1 ≤ 4000000; omega)
        (repeat' (first | tb_start | fail))
        exact .mk (by assumption) ((Fit.tup' (FitAll.app (hfd.mono (Nat.le_refl _) (show 1 ≤ 4 by decide)) (FitAll.cons' ((Fit.tup' hr).up (by decide)) FitAll.nil'))).mono (by decide) (by decide))
    · have h0 := fit_items hr0
      obtain ⟨_, hrest, _⟩ := hr.fst
      refine ix_use (P := Fit 42000 3) rfl rfl ?_ (by assumption) (by assumption) fun d hd => ?_
      · simp only [List.cons_append, List.nil_append, List.forall_mem_cons]
        refine ⟨(Fit.lst' hr).mono (by decide) (by decide), (Fit.tup' (m := 0) FitAll.nil').mono (by decide) (by decide), (Fit.tup' (hr.cut _ _)).mono (by decide) (by decide), Fit.str (n := 42000) ⟨by decide +kernel, by decide +kernel⟩, Fit.non (by decide), hr0.mono (by decide) (by decide), (Fit.lst' (FitAll.cons' (Fit.tup' hr) FitAll.nil')).mono (by decide) (by decide), ?_, ?_⟩
        · exact (Fit.tup' (FitAll.cons' (Fit.lst' h0) (hrest.mono (Nat.sub_le _ _) (Nat.le_refl _)))).mono (by decide) (by decide)
        · intro d m
          cases m
      · (repeat' (first | tb_start | fail))
        exact .mk (by assumption) (Fit.mono (fit4 (m := 3) (ht.up (by decide)) (int_fit (by omega) (by omega)) (int_fit (by omega) (by omega)) hd) (by decide) (by decide))

/-! k15, the plain law: code with something put otherwise. -/
structure PlanF (C F : List PyData) : Prop where
  fc : FitAll 210 1 C
  lc : C.length ≤ 2
  l0 : 1 ≤ F.length
  l1 : F.length ≤ 4
  fs : ∀ f ∈ F, ∃ t p s rows, FnF f t p s rows
theorem plan_f {d : PyData} (h : PlanB d) : ∃ C F, d = .tuple [.tuple C, .tuple F] ∧ PlanF C F := by
  obtain ⟨C, F, xs, rfl, hC, hl, hx0, hx1, hasc, hown, hF⟩ := h.ex
  refine ⟨C, F, rfl, ?_, hC.len, by omega, by omega, fun f m => ?_⟩
  · have f1 := fit_all (ds := C) (n := 100) (k := 1) fun d m => by
      obtain ⟨x, j, rfl, _, _, f, b0, b1⟩ := hC.prs d m
      exact Fit.mono (fit2 (m := 0) f (int_fit (by omega) (by omega))) (by decide) (by decide)
    have b1 : (100 + 2) * C.length ≤ (100 + 2) * 2 := Nat.mul_le_mul_left _ hC.len
    exact f1.mono (by omega) (Nat.le_refl _)
  · obtain ⟨k, e⟩ := List.mem_iff_getElem?.mp m
    obtain ⟨t, ht, params, s, hf, h0, h1, h2, h3⟩ := hF k f e
    obtain ⟨rows, rfl, hr, hr0, hr1⟩ := hf.ex
    exact ⟨t, params, s, rows, rfl, hown t (List.mem_of_getElem? ht), h0, h1, by omega, h3, hr0, hr1, fun e m => ⟨(hr e m).2, row_tup (hr e m)⟩⟩
theorem PlanF.fits {C F : List PyData} (h : PlanF C F) : FitAll 168008 4 F := by
  have h1 := fit_all (ds := F) (n := 42000) (k := 4) fun f m => by
    obtain ⟨t, p, s, rows, hf⟩ := h.fs f m
    exact hf.fit
  have h2 : (42000 + 2) * F.length ≤ (42000 + 2) * 4 := Nat.mul_le_mul_left _ h.l1
  exact h1.mono (by omega) (Nat.le_refl _)
theorem add_tup {x y : RV} {ρ : List SV} {a b : List PyData} {Q : PyData → Prop} (hx : view true ρ x = some (.tuple a)) (hy : view true ρ y = some (.tuple b)) (hl : a.length + b.length ≤ 4000000) (q : Q (.tuple (a ++ b))) :
    ∃ dx dy z, view true ρ x = some dx ∧ view true ρ y = some dy ∧ opAdd dx dy = some z ∧ Q z := ⟨_, _, _, hx, hy, if_pos hl, q⟩
theorem FitAll.rev {m : Nat} : ∀ {n : Nat} {ds : List PyData}, FitAll n m ds → FitAll n m ds.reverse
  | n, [], h => h
  | n, d :: ds, h => by
    obtain ⟨h1, h2, h3⟩ := h.fst
    rw [List.reverse_cons]
    exact (FitAll.app (FitAll.rev h2) (FitAll.cons' h1 FitAll.nil')).mono (by omega) (Nat.le_refl _)
theorem FitAll.rep {n m : Nat} {ds : List PyData} (h : FitAll n m ds) : ∀ k : Nat, FitAll (n * k) m (List.replicate k ds).flatten
  | 0 => FitAll.nil'
  | k + 1 => by
    rw [List.replicate_succ, List.flatten_cons, Nat.mul_succ]
    exact (FitAll.app h (FitAll.rep h k)).mono (by omega) (Nat.le_refl _)
theorem wrap1 {C F : List PyData} {g : PyData} (hC : FitAll 210 1 C) (hF : FitAll 168008 4 F) (hg : Fit 100000 8 g) (a b a' b' : Option Int) : Fit 3000000 20 (.tuple [.tuple C, .tuple ((cutD F a b ++ [g]) ++ cutD F a' b')]) :=
  Fit.mono (fit2 (m := 9) ((Fit.tup' hC).up (by decide)) (Fit.tup' (FitAll.app (FitAll.app ((hF.cut a b).mono (Nat.le_refl _) (show 4 ≤ 8 by decide)) (FitAll.cons' hg FitAll.nil')) ((hF.cut a' b').mono (Nat.le_refl _) (show 4 ≤ 8 by decide))))) (by decide) (by decide)
local macro_rules | `(tactic| tb_rel) => `(tactic| (refine FitR.then (e_law_odd_row (by assumption) (by omega) (by omega) (by omega) (by omega) (by assumption)) fun d p hp hf => ?_; (with_unfolding_all (first | refine outs_par0 ?_ | skip))))
local macro_rules | `(tactic| tb_rel) => `(tactic| (refine FitR.then (e_law_bent_part (by assumption) (by assumption)) fun d p hp hf => ?_; (with_unfolding_all (first | refine outs_par0 ?_ | skip))))
theorem e_law_spoilt {q C F : List PyData} (hq : PoolL q) (h : PlanF C F) : WD D_law_spoilt [.io q, .dat (.tuple [.tuple C, .tuple F])] (FitR 3000000 20) := by
  have hF := h.fits
  have hC := h.fc
  have hl1 := h.l1
  have hlc := h.lc
  have hl0 : (0 : Int) < F.length := by have := h.l0; omega
  have hl2 : (F.length : Int) < 2 ^ 200 := by have := h.l1; omega
  refine wd_run' rfl rfl (by (first | top_name | fail)) ?_
  (repeat' (first | tb_start | fail))
  rename_i k1 p1 hp1 h01 h11 k2 p2 hp2 h02 h12
  obtain ⟨K, rfl⟩ := Int.eq_ofNat_of_zero_le h01
  have hK : K < F.length := by omega
  have hix : opIx (.tuple F) (.int (K : Nat)) = some F[K] := atI_nat (List.getElem?_eq_getElem hK)
  obtain ⟨t, p, s, rows, hf⟩ := h.fs F[K] (List.getElem_mem hK)
  refine ⟨_, _, _, rfl, rfl, hix, ?_⟩
  have hff := hf.fit
  generalize F[K] = f at hix hf hff ⊢
  have ht := own_fit hf.tt
  have hr0 := hf.r0
  have hr1 := hf.r1
  have hs0 := hf.s0
  have hs1 := hf.s1
  have hrw := hf.rows
  have hp0 := hf.p0
  have hp1 := hf.p1
  have hfe := hf.eq
  subst hfe
  have hcr : ∀ a b, (cutD rows a b).length ≤ 400 := fun a b => Nat.le_trans cut_lenB hr1
  have hcF : ∀ a b, (cutD F a b).length ≤ 4 := fun a b => Nat.le_trans cut_lenB hl1
  have hl3 := h.l0
  have f0f : ∃ f0, opIx (.tuple F) (.int 0) = some f0 ∧ Fit 42000 4 f0 := by
    obtain ⟨_, _, _, _, hf0⟩ := h.fs F[0] (List.getElem_mem (by omega))
    exact ⟨F[0], atI_nat (j := 0) (List.getElem?_eq_getElem (by omega)), hf0.fit⟩
  obtain ⟨f0, hF0, hf0⟩ := f0f
  have hCz : opAdd (.tuple C) (.tuple [.tuple [.str "zz", .int 1]]) = some (.tuple (C ++ [.tuple [.str "zz", .int 1]])) := if_pos (by show C.length + 1 ≤ 4000000; omega)
  have hFF : opAdd (.tuple F) (.tuple F) = some (.tuple (F ++ F)) := if_pos (by omega)
  have hFf : opAdd (.tuple F) (.tuple [f0]) = some (.tuple (F ++ [f0])) := if_pos (by show F.length + 1 ≤ 4000000; omega)
  have hM : opMulT (.tuple F) (.int 13) = some (.tuple (List.replicate 13 F).flatten) := if_pos ⟨by decide, by decide, by omega, by
    cases F with
    | nil => cases hl3
    | cons a b => rfl⟩
  (repeat' (first | tb_start | fail))
  · refine add_tup rfl rfl (Nat.le_trans (Nat.add_le_add (hcr _ _) (Nat.le_refl _)) (by show 400 + 1 ≤ 4000000; decide)) ?_
    (repeat' (first | tb_start | fail))
    refine add_tup rfl rfl (by rw [List.length_append]; exact Nat.le_trans (Nat.add_le_add (Nat.add_le_add (hcr _ _) (Nat.le_refl _)) (hcr _ _)) (by show 400 + 1 + 400 ≤ 4000000; decide)) ?_
    (repeat' (first | tb_start | fail))
    refine add_tup rfl rfl (Nat.le_trans (Nat.add_le_add (hcF _ _) (Nat.le_refl _)) (by show 4 + 1 ≤ 4000000; decide)) ?_
    (repeat' (first | tb_start | fail))
    refine add_tup rfl rfl (by rw [List.length_append]; exact Nat.le_trans (Nat.add_le_add (Nat.add_le_add (hcF _ _) (Nat.le_refl _)) (hcF _ _)) (by show 4 + 1 + 4 ≤ 4000000; decide)) ?_
    (repeat' (first | tb_start | fail))
    refine .mk (by assumption) (wrap1 hC hF ?_ _ _ _ _)
    refine Fit.mono (fit4 (m := 5) (ht.up (by decide)) (int_fit (by omega) (by omega)) (int_fit (by omega) (by omega)) (Fit.tup' (FitAll.app (FitAll.app ((hrw.cut _ _).mono (Nat.le_refl _) (show 1 ≤ 4 by decide)) (FitAll.cons' ‹Fit 200 4 _› FitAll.nil')) ((hrw.cut _ _).mono (Nat.le_refl _) (show 1 ≤ 4 by decide))))) (by decide) (by decide)
  · refine add_tup rfl rfl (Nat.le_trans (Nat.add_le_add (hcF _ _) (Nat.le_refl _)) (by show 4 + 1 ≤ 4000000; decide)) ?_
    (repeat' (first | tb_start | fail))
    refine add_tup rfl rfl (by rw [List.length_append]; exact Nat.le_trans (Nat.add_le_add (Nat.add_le_add (hcF _ _) (Nat.le_refl _)) (hcF _ _)) (by show 4 + 1 + 4 ≤ 4000000; decide)) ?_
    (repeat' (first | tb_start | fail))
    exact .mk (by assumption) (wrap1 hC hF (Fit.mono ‹Fit 43000 5 _› (by decide) (by decide)) _ _ _ _)
  · refine ix_use (P := Fit 1000 6) rfl rfl ?_ (by assumption) (by assumption) fun d hd => ?_
    · simp only [List.cons_append, List.nil_append, List.forall_mem_cons]
      repeat' (first
        | refine And.intro ?_ ?_
        | exact (odd1 (by decide +kernel)).mono (by decide) (by decide)
        | exact (Fit.tup' (FitAll.app (hC.mono (Nat.le_refl _) (show 1 ≤ 4 by decide)) (FitAll.cons' (odd1 (by decide +kernel)) FitAll.nil'))).mono (by decide) (by decide)
        | (intro d m; cases m; done))
    · (repeat' (first | tb_start | fail))
      exact .mk (by assumption) (Fit.mono (fit2 (m := 6) hd ((Fit.tup' hF).up (by decide))) (by decide) (by decide))
  · refine ix_use (P := Fit 2900000 12) rfl rfl ?_ (by assumption) (by assumption) fun d hd => ?_
    · simp only [List.cons_append, List.nil_append, List.forall_mem_cons]
      refine ⟨(Fit.tup' hF.rev).mono (by decide) (by decide), (Fit.tup' (FitAll.app hF hF)).mono (by decide) (by decide), (Fit.lst' hF).mono (by decide) (by decide), hf0.mono (by decide) (by decide), Fit.non (by decide), (Fit.tup' (m := 0) FitAll.nil').mono (by decide) (by decide), (Fit.tup' (FitAll.app hF (FitAll.cons' hf0 FitAll.nil'))).mono (by decide) (by decide), (Fit.tup' (hF.cut _ _)).mono (by decide) (by decide), (Fit.tup' (hF.rep 13)).mono (by decide) (by decide), ?_⟩
      intro d m
      cases m
    · (repeat' (first | tb_start | fail))
      exact .mk (by assumption) (Fit.mono (fit2 (m := 12) ((Fit.tup' hC).up (by decide)) hd) (by decide) (by decide))
  · have hp2 : Fit 168300 6 (.tuple [.tuple C, .tuple F]) := Fit.mono (fit2 (m := 5) ((Fit.tup' hC).up (by decide)) (Fit.tup' hF)) (by decide) (by decide)
    have hi := fit_items hp2
    refine ix_use (P := Fit 3000000 20) rfl rfl ?_ (by assumption) (by assumption) fun d hd => ?_
    · simp only [List.cons_append, List.nil_append, List.forall_mem_cons]
      refine ⟨Fit.non (by decide), (Fit.tup' hC).mono (by decide) (by decide), (Fit.tup' hF).mono (by decide) (by decide), (Fit.lst' hi).mono (by decide) (by decide), (Fit.tup' (FitAll.app hi (FitAll.cons' ((Fit.tup' (m := 0) FitAll.nil').up (by decide)) FitAll.nil'))).mono (by decide) (by decide), (Fit.tup' (FitAll.cons' hp2 FitAll.nil')).mono (by decide) (by decide), Fit.str (n := 3000000) ⟨by decide +kernel, by decide +kernel⟩, Fit.dct (by decide) (by decide), Fit.mono (int_fit (m := 0) (by omega) (by omega)) (by decide) (by decide), Fit.bl (by decide), (Fit.tup' hi.rev).mono (by decide) (by decide), ?_, ?_⟩
      · exact (Fit.tup' (m := 5) (FitAll.cons' (Fit.tup' hF) (FitAll.cons' ((Fit.tup' hC).up (by decide)) (FitAll.cons' (int_fit (by omega) (by omega)) FitAll.nil')))).mono (by decide) (by decide)
      · intro d m
        cases m
    · (repeat' (first | tb_start | fail))
      exact .mk (by assumption) hd

/-! k15, the plain law: what is asked; right. -/
theorem repr_b (b : Bool) : opRepr [.bool b] = some (.str (PyData.bool b).shown) := by
  have h : ∀ b : Bool, fitB (.bool b) = true := by decide +kernel
  exact if_pos (h b)
theorem e_law_asked {d : PyData} (g : Goo3 d) : D_law_asked [.dat d, .dat (.bool (codeD d))] = some (.dat (.bool true), []) := by
  have hr : opRepr3 [d] = some (.str d.shown) := if_pos (fit3_mk g.f)
  have hb := repr_b (codeD d)
  refine WD.eq (wd_run' rfl rfl (by (first | top_name | fail)) ?_)
  (repeat' (first | tb_start | fail))
  · exact ans_b (decide_eq_true rfl)
  · exact absurd (show decide (V.str (PyData.bool (codeD d)).shown = V.str (PyData.bool (codeD d)).shown) = false from ‹_›) (by rw [decide_eq_true rfl]; exact fun z => nomatch z)
theorem asked_at {d : PyData} {b : Bool} (g : Goo3 d) (h : codeD d = b) : D_law_asked [.dat d, .dat (.bool b)] = some (.dat (.bool true), []) := by
  subst h
  exact e_law_asked g
local macro_rules | `(tactic| tb_rel) => `(tactic| refine WD.of (asked_at (by assumption) (by assumption)) ?_)
theorem PlanR.then {D : FD} {as : List AV} {Q : RD → List (List PyData) → Prop} (h : WD D as PlanR) (q : ∀ d p, PoolL p → PlanB d → Q (.dat d) [p]) : WD D as Q :=
  h.mono fun r os z => by
    cases z with
    | mk hp h1 => exact q _ _ hp h1
/-- while bent plans are asked -/
def RgtJ (d : PyData) (i : Nat) (ρ : List SV) : Prop := ∃ (p : List PyData) (s2 s3 : SV), PoolL p ∧ isPar s2 = false ∧ isPar s3 = false ∧ ρ = [.par p, .d d, s2, s3]
inductive RightR : RD → List (List PyData) → Prop
  | mk {p : List PyData} : PoolL p → RightR (.dat (.bool true)) [p]
theorem e_law_right {q : List PyData} (hq : PoolL q) : WD D_law_right [.io q] RightR := by
  refine wd_run' rfl rfl (by (first | top_name | fail)) ?_
  (repeat' (first | tb_start | fail))
  refine PlanR.then (e_law_plan (many := 4) hq (by decide) (by decide)) fun d p hp hd => ?_
  (with_unfolding_all (first | refine outs_par0 ?_ | skip))
  obtain ⟨hc, g⟩ := plan_good hd
  obtain ⟨C, F, rfl, hpf⟩ := plan_f hd
  have gN : Goo3 .none := ⟨Fit.non (by decide)⟩
  (repeat' (first | tb_start | fail))
  · refine wb_for (wo_rngS (wo_cons (wo_c (wo_nil ⟨_, 60, rfl, rfl, by decide, RgtJ (.tuple [.tuple C, .tuple F]), ⟨p, _, _, hp, rfl, rfl, rfl⟩, ?_, ?_⟩))))
    · rintro i e ρ hi ⟨p, s2, s3, hp, h2, h3, rfl⟩
      obtain ⟨_, rfl⟩ := rng_get hi
      refine ⟨_, gNat (i := 2) rfl h2, ?_⟩
      show WB _ [.par p, .d (.tuple [.tuple C, .tuple F]), .d _, s3] _
      refine wb_seq (wb_set ?_)
      (repeat' (first | tb_start | fail))
      refine FitR.then (e_law_spoilt hp hpf) fun b p hp hb => ?_
      (with_unfolding_all (first | refine outs_par0 ?_ | skip))
      have gb : Goo3 b := ⟨hb.mono (by decide) (by decide)⟩
      have hbc : codeD b = codeD b := rfl
      (repeat' (first | tb_start | fail))
      exact ⟨p, _, _, hp, rfl, rfl, rfl⟩
    · rintro ρ ⟨p, s2, s3, hp, h2, h3, rfl⟩
      have i1 : opIsB (.bool (codeD (.tuple [.tuple C, .tuple F]))) (.bool true) = some (.bool true) := by
        rw [hc]
        rfl
      have i2 : opIsB (.bool (codeD .none)) (.bool false) = some (.bool true) := rfl
      (repeat' (first | tb_start | fail))
      all_goals exact .mk (by assumption)
  · exact absurd ‹(!codeD (.tuple [.tuple C, .tuple F])) = true› (by rw [hc]; exact fun z => nomatch z)

/-! k15, the plain law: by hand: the limits met and passed. -/
def runL : List FB → List SV → Option (List SV)
  | [], ρ => some ρ
  | f :: l, ρ => match f ρ with
    | some (.nx ρ1) => runL l ρ1
    | _ => none
theorem seqs_run {R : FB} {D : EB} : ∀ (l : List FB) (ρ ρ' : List SV), runL l ρ = some ρ' → WB R ρ' D → WB (seqs l R) ρ D
  | [], ρ, ρ', e, h => by
    cases e
    exact h
  | f :: l, ρ, ρ', e, h => by
    unfold runL at e
    split at e
    · rename_i ρ1 e1
      exact wb_seq ⟨.nx ρ1, e1, seqs_run l ρ1 ρ' e h⟩
    · cases e
def deepN : Nat → PyData
  | 0 => .tuple []
  | n + 1 => .tuple [deepN n]
abbrev trapD : PyData := .tuple [.tuple [.str "trap"]]
abbrev nmL : List Str := ["fa", "fb", "fc", "fd", "fe", "ff", "fg", "fh", "fi", "fj", "fk", "fl", "fm"]
def fnZ (t : Str) (p s : Int) (b : PyData) : PyData := .tuple [.str t, .int p, .int s, b]
def oneF (f : PyData) : PyData := .tuple [.tuple [], .tuple [f]]
def manyT (k : Int) : PyData := .tuple (List.replicate k.toNat [PyData.tuple [.str "trap"]]).flatten
def someL : List PyData := [oneF (fnZ "main" 6 6 trapD), oneF (fnZ "main" 0 200 trapD), oneF (fnZ "main" 0 0 (manyT 10000)),
  .tuple [.tuple [], .tuple ((nmL.take 12).map fun t => fnZ t 0 0 trapD)], oneF (fnZ (Txt.mul "a" 12) 0 0 trapD),
  .tuple [.tuple ((nmL.take 8).map fun t => .tuple [.str t, .int 256]), .tuple [fnZ "fa" 0 0 trapD]], oneF (fnZ "array1" 0 0 (.tuple [.tuple [.str "add"]]))]
def farL : List PyData := [oneF (fnZ "main" 7 7 trapD), oneF (fnZ "main" 0 201 trapD), oneF (fnZ "main" 0 0 (manyT 10001)),
  .tuple [.tuple [], .tuple (nmL.map fun t => fnZ t 0 0 trapD)], oneF (fnZ (Txt.mul "a" 13) 0 0 trapD), .tuple [.tuple [], .tuple []],
  .tuple [.tuple ((nmL.take 9).map fun t => .tuple [.str t, .int 1]), .tuple [fnZ "main" 0 0 trapD]],
  .tuple [.tuple [.tuple [.str "a", .int 0]], .tuple [fnZ "main" 0 0 trapD]], .tuple [.tuple [.tuple [.str "a", .int 257]], .tuple [fnZ "main" 0 0 trapD]],
  oneF (fnZ "main" 2 1 trapD),
  deepN 290, .tuple [deepN 290, deepN 290], oneF (fnZ "main" 0 0 (.tuple [deepN 290])), oneF (fnZ "main" 0 0 (.tuple [.tuple [.str "push", deepN 290]]))]
theorem lim_run : runL lsts (List.replicate 9 .un) = some [.d trapD, .d (.list (nmL.map PyData.str)), .un, .own someL, .un, .own farL, .d (deepN 290), .d (.int 289), .un] := by kernel_rfl
def dueB (b : Bool) (d : PyData) : Bool := match fitD d with
  | some (n, m) => decide (n ≤ 4000000) && decide (m ≤ 300) && (codeD d == b)
  | none => false
theorem due_of {b : Bool} {d : PyData} (h : dueB b d = true) : Goo3 d ∧ codeD d = b := by
  unfold dueB at h
  split at h
  · rename_i n k e
    have h := Bool.and_eq_true_iff.mp h
    have h1 := Bool.and_eq_true_iff.mp h.1
    exact ⟨⟨(fitD_ok d n k e).mono (of_decide_eq_true h1.1) (of_decide_eq_true h1.2)⟩, by simpa using h.2⟩
  · cases h
theorem rep_len {x : PyData} (k : Nat) : (List.replicate k [x]).flatten.length = k := by
  rw [List.length_flatten]
  simp
theorem rep_mem {x y : PyData} {k : Nat} (h : y ∈ (List.replicate k [x]).flatten) : y = x := by
  obtain ⟨l, h1, h2⟩ := List.mem_flatten.mp h
  rw [List.eq_of_mem_replicate h1] at h2
  exact List.mem_singleton.mp h2
theorem many_fit {k : Int} (h1 : k ≤ 10001) : Fit 300000 2 (manyT k) := by
  have hf : FitAll 20 1 [PyData.tuple [.str "trap"]] := (FitAll.cons' (Fit.tup' (FitAll.cons' (Fit.str (n := 6) (m := 0) (x := "trap") ⟨by decide +kernel, by decide +kernel⟩) FitAll.nil')) FitAll.nil').mono (by decide) (by decide)
  have h2 := hf.rep k.toNat
  have h3 : 20 * k.toNat ≤ 20 * 10001 := Nat.mul_le_mul_left _ (by omega)
  exact (Fit.tup' h2).mono (by omega) (Nat.le_refl _)
theorem many_good {k : Int} (h1 : k ≤ 10001) : Goo3 (oneF (fnZ "main" 0 0 (manyT k))) := by
  refine ⟨Fit.mono (fit2 (m := 5) ((Fit.tup' (m := 0) FitAll.nil').up (by decide)) (Fit.tup' (FitAll.cons' ((fit4 (m := 2) (Fit.str (n := 30) (x := "main") ⟨by decide +kernel, by decide +kernel⟩) (int_fit (by omega) (by omega)) (int_fit (by omega) (by omega)) (many_fit h1)).up (by decide)) FitAll.nil'))) (by decide) (by decide)⟩
theorem many_code {k : Int} (h0 : 1 ≤ k) : codeD (oneF (fnZ "main" 0 0 (manyT k))) = decide (k ≤ 10000) := by
  have hl := rep_len (x := PyData.tuple [.str "trap"]) k.toNat
  have hm : nameS "main" = true := by decide +kernel
  have hr : rowsOk [] ["main"] (fnZ "main" 0 0 (manyT k)) = true := by
    show (List.replicate k.toNat [PyData.tuple [.str "trap"]]).flatten.all (insD 0 _ [] ["main"]) = true
    refine List.all_eq_true.mpr fun y m => ?_
    rw [rep_mem m]
    show inV (.str "trap") bareV = true
    decide +kernel
  have e : codeD (oneF (fnZ "main" 0 0 (manyT k))) = (((nameS "main" && (cntD 0 6 (.int 0) && (cntD 0 200 (.int 0) && (decide ((1 : Int) ≤ (List.replicate k.toNat [PyData.tuple [.str "trap"]]).flatten.length) && decide (((List.replicate k.toNat [PyData.tuple [.str "trap"]]).flatten.length : Int) ≤ 10000))))) && true) && (true && (rowsOk [] ["main"] (fnZ "main" 0 0 (manyT k)) && true))) := rfl
  rw [e, hm, hr, hl, decide_eq_true (show (1 : Int) ≤ (k.toNat : Int) by omega), show decide ((k.toNat : Int) ≤ 10000) = decide (k ≤ 10000) from decide_eq_decide.mpr (by omega)]
  cases decide (k ≤ 10000) <;> rfl
theorem some_ok : ∀ d ∈ someL, Goo3 d ∧ codeD d = true := by
  unfold someL
  refine List.forall_mem_cons.mpr ⟨due_of (by decide +kernel), List.forall_mem_cons.mpr ⟨due_of (by decide +kernel), List.forall_mem_cons.mpr ⟨⟨many_good (by decide), (many_code (by decide)).trans (by decide)⟩, ?_⟩⟩⟩
  repeat' (first | exact due_of (by decide +kernel) | (intro d m; cases m; done) | refine List.forall_mem_cons.mpr ⟨?_, ?_⟩)
theorem far_ok : ∀ d ∈ farL, Goo3 d ∧ codeD d = false := by
  unfold farL
  refine List.forall_mem_cons.mpr ⟨due_of (by decide +kernel), List.forall_mem_cons.mpr ⟨due_of (by decide +kernel), List.forall_mem_cons.mpr ⟨⟨many_good (by decide), (many_code (by decide)).trans (by decide)⟩, ?_⟩⟩⟩
  repeat' (first | exact due_of (by decide +kernel) | (intro d m; cases m; done) | refine List.forall_mem_cons.mpr ⟨?_, ?_⟩)
theorem e_law_limits_right : D_law_limits_right [] = some (.dat (.bool true), []) := by
  have e := lim_run
  rw [lim_seqs]
  refine WD.eq (wd_run rfl rfl (seqs_run lsts _ _ e ?_))
  have hs := some_ok
  have hf := far_ok
  have ls : someL.length ≤ 4000000 := by decide
  have lf : farL.length ≤ 4000000 := by decide
  generalize someL = S at *
  generalize farL = F at *
  generalize deepN 290 = dd at *
  have hall : ∀ L : List PyData, opAll [.list ((L.map IV.dat).map fun _ => PyData.bool true)] = some (.bool true) := fun L => by
    rw [op_all_map (g := fun _ => true)]
    simp
  unfold lret
  (repeat' (first | tb_start | fail))
  refine wo_map (fun _ => .bool true) (wo_iter (wo_name rfl ⟨_, _, rfl, (fun _ z => nomatch z), S, rfl, rfl, by rw [List.length_map]; exact ls, [.d trapD, .d (.list (nmL.map PyData.str)), .un, .d (.list S), .un, .own F, .d dd, .d (.int 289), .un], by (first | top_name | fail), fun d m => ?_, _, nrm_id, ?_⟩))
  · obtain ⟨y, my, rfl⟩ := List.mem_map.mp m
    obtain ⟨g, hc⟩ := hs y my
    refine ⟨_, rfl, ?_⟩
    (repeat' (first | tb_start | fail))
    all_goals exact ⟨rfl, rfl⟩
  have hS := hall S
  (repeat' (first | tb_start | fail))
  refine wo_map (fun _ => .bool true) (wo_iter (wo_name rfl ⟨_, _, rfl, (fun _ z => nomatch z), F, rfl, rfl, by rw [List.length_map]; exact lf, [.d trapD, .d (.list (nmL.map PyData.str)), .un, .d (.list S), .un, .d (.list F), .d dd, .d (.int 289), .un], by (first | top_name | fail), fun d m => ?_, _, nrm_id, ?_⟩))
  · obtain ⟨y, my, rfl⟩ := List.mem_map.mp m
    obtain ⟨g, hc⟩ := hf y my
    refine ⟨_, rfl, ?_⟩
    (repeat' (first | tb_start | fail))
    all_goals exact ⟨rfl, rfl⟩
  have hF := hall F
  (repeat' (first | tb_start | fail))
  all_goals exact ⟨rfl, rfl⟩

/-! k15, the plain law: truths in the place of numbers. -/
theorem e_law_truths_right : D_law_truths_right [] = some (.dat (.bool true), []) := by kernel_rfl

/-! k15: what law's last statement asks of the others. -/
open PySem PySem.Spec PyProof.Rows L2 LamX
noncomputable def okT [TC : TabsC] {X : Cx} {e : Expr} {F : FM Bool} (h : TOk X e F) : TT := h.choose
theorem okT_pt [TC : TabsC] {X : Cx} {e : Expr} {F : FM Bool} (h : TOk X e F) : PT X e (okT h) := h.choose_spec.1
/-- a first statement `if t: return ..` that does not return; the slots are told by J -/
theorem lw_if [TC : TabsC] {X : Cx} {e : Expr} {T : FM Bool} {S : Sit} {M : List Addr} {σ : L2.St} {H : Hp} {ρ : List SV} {A b : TS} {D : L2.Ends} (h : TOk X e T) (R : Rel S M σ H ρ) (w : WO T ρ fun c ρ' => c = false ∧ ρ' = ρ) (k : ∀ M' H', Rel S M' σ H' ρ → b D σ H') : tSeq (tIfS (okT h) A tNext) b D σ H := by
  obtain ⟨c, ρ', e1, rfl, rfl⟩ := w
  exact h.choose_spec.2 S M σ H ρ' _ _ R e1 _ fun M' H' R' _ => iteF (k M' H' R')
theorem ex_same {H H1 H2 : Hp} (s : L2.Same H1 H2) (h : ExtN H H1) : ExtN H H2 := h.trans (.of s)
theorem ex_over {G H H1 : Hp} {l : Addr} {u : HO} (s : ExtN G H1) (n : H1 l = none) (t : ExtN G H) : ExtN G (upd H l u) := fun b o e hn => by
  have h : b ≠ l := fun z => by
    subst z
    rw [s b o e hn] at n
    cases n
  rw [upd_ne h]
  exact t b o e hn
theorem sql_ext {K : PySem.W.Frag} {H H' : Hp} {a : Addr} {xs : List V} (e : ExtN H H') (h : SqL K H a xs) : SqL K H' a xs := by
  rcases h with (h | ⟨o, h⟩) | h
  · exact .inl (.inl (e _ _ h (fun _ z => nomatch z)))
  · exact .inl (.inr ⟨o, e _ _ h (fun _ z => nomatch z)⟩)
  · exact .inr h
theorem not_tbl_of {o : HO} (h : ∀ ps, o ≠ .tbl ps) : isTbl o = false := by
  cases o with
  | tbl ps => exact absurd rfl (h ps)
  | _ => rfl
theorem Rel.ext0 [TC : TabsC] {H0 : Hp} {M : List Addr} {σ : L2.St} {H : Hp} {ρ : List SV} (R : Rel ⟨[], [], noT H0⟩ M σ H ρ) : ExtN H0 H := fun b o h n => R.out b o (fun i z => nomatch z) (noT_of h (not_tbl_of n))
theorem ints3 {H : Hp} {ys : List V} {a b c : Int} (h : DAll H ys [.int a, .int b, .int c]) : ys = [.int a, .int b, .int c] := by
  cases h with
  | cons h1 t =>
    cases t with
    | cons h2 t =>
      cases t with
      | cons h3 t =>
        cases t
        cases h1
        cases h2
        cases h3
        rfl
theorem right_conv {vs : List V} {H : Hp} {Q : VK} {E : XK} (h : spRight vs H Q E) : spF D_law_right vs H Q E := by
  obtain ⟨p, rfl, ⟨s, d, n, e0, h0, h1, h2⟩, q⟩ := h
  obtain ⟨r, os, eD, hR⟩ := (e_law_right (q := [.int s, .int d, .int n]) ⟨s, d, n, rfl, h0, h1, h2⟩).ex
  cases hR with
  | mk hp =>
    obtain ⟨s', d', n', rfl, g0, g1, g2⟩ := hp
    refine ⟨[p], [.io [.int s, .int d, .int n]], _, _, fun a m => ?_, .io List.mem_cons_self e0 (.cons (.int _) (.cons (.int _) (.cons (.int _) .nil))) .nil, ?_, eD, fun v M' H' hk ho hr => ?_⟩
    · rw [List.mem_singleton.mp m]
      exact ⟨_, e0, rfl⟩
    · show [p].Nodup
      simp
    · obtain ⟨_, hv⟩ := hr
      cases hv
      have ho : OutsOk M' H' [p] [[.int s', .int d', .int n']] := ho
      cases ho with
      | cons e1 e2 e3 =>
        rw [ints3 e2] at e1
        refine q H' (fun b o hn hb => hk b o ?_ hb) ⟨_, _, _, e1, g0, g1, g2⟩
        show b ∉ [p]
        simpa using hn
theorem not_own {D : FD} {ρ : List SV} {Q : Bool → List SV → Prop} (e : D [] = some (.dat (.bool true), [])) (q : Q false ρ) : WO (fNot (fTru (fOwn D fNil))) ρ Q :=
  wt_not (wt_tru (wo_own (wo_nil ⟨_, rfl, nd0, WD.of e ⟨_, rfl, _, _, rfl, rfl, q⟩⟩)))
theorem or_own {D D' : FD} {ρ : List SV} {Q : Bool → List SV → Prop} (e : D [] = some (.dat (.bool true), [])) (e' : D' [] = some (.dat (.bool true), [])) (q : Q false ρ) : WO (fOr (fNot (fTru (fOwn D fNil))) (fNot (fTru (fOwn D' fNil)))) ρ Q :=
  wt_or (not_own e ⟨fun _ => not_own e' q, fun z => Bool.noConfusion (show false = true from z)⟩)

open PySem PySem.Spec PyProof.Rows L2 LamX
-- slots: _law_script _law_k
section
variable {P : Program} {w : World} {K : PySem.W.Frag} {mg : Str → Option Value} {base : Heap}
theorem o_law_cell (T : Txt K mg)  : Gives P w K mg base CX0 1 "_law_cell" (spCell K) := by
  refine gives_fun T.d_law_cell sc_law_cell (fun _ _ _ _ _ _ us hl => match us, hl with | [_, _], _ => rfl) (fun vs H Q E h => ?_) (fun f cdv A outer s H vs Q E hr h => ?_)
  · obtain ⟨a, ns, k, rfl, _⟩ := h
    rfl
  · obtain ⟨a, ns, k, rfl, hS, hl, h0, h1, q⟩ := h
    refine ⟨_, (pss_cons (ps_if (pt_cmpR op_lt (pv 1) (pe_callB call_len_seq (by rfl) T.n_len (by decide +kernel) (pa_cons (pv 0) pa_nil)) (nomark _)) (pss_one (ps_ret (pe_ix ix_list (pv 0) (pv 1) (fun _ _ => rfl)))) pss_nil)
      (pss_cons (ps_set (i := 2) sc_law_cell.nd rfl (Or.inl rfl) (pe_op op_mod (pe_op op_mul pe_int (pe_op op_add (pe_op op_add (pe_op op_mul (pv 1) (pv 1)) (pe_op op_mul pe_int (pv 1))) pe_int)) pe_int))
      (pss_cons (ps_for PassesOwn.never rfl (pi_list (pe_slice sl_list (pv 0) po_none (po_some pe_int))) (pg_name (i := 3) sc_law_cell.nd rfl (Or.inl rfl)) (pss_one (ps_set (i := 2) sc_law_cell.nd rfl (Or.inl rfl) (pe_op op_mod (pe_op op_add (pe_op op_mul (pv 2) pe_int) (pv 3)) pe_int))))
      (pss_one (ps_ret (pv 2)))))), ?_⟩
    have hlen : (ns.map V.int).length = ns.length := List.length_map _
    refine ⟨_, rfl, _, rfl, a, _, rfl, .inl hS, _, _, rfl, rfl, _, rfl, ite2 (fun c => ?_) (fun c => ?_)⟩
    · have c1 : k < (((ns.map V.int).length : Nat) : Int) := of_decide_eq_true c
      rw [hlen] at c1
      obtain ⟨v, hv, _⟩ := at_ints (P := fun _ => True) ns (fun _ _ => trivial) h0 c1
      exact ⟨_, rfl, _, rfl, a, _, _, _, rfl, rfl, hS, hv, q _ _ (Same.refl _)⟩
    · refine ⟨_, rfl, _, rfl, _, _, rfl, rfl, .inl ⟨by omega, by omega⟩, _, rfl, _, _, rfl, rfl, .inl ⟨by decide, by decide⟩, _, _, rfl, rfl, _, _, rfl, rfl, _, _, rfl, rfl, .inl ⟨by decide, by decide⟩, _, _, rfl, rfl, (by show (0 : Int) < 2147483269; decide), ?_⟩
      refine ⟨_, rfl, 3, rfl, a, _, rfl, hS, fun c nc => ?_⟩
      have hc : SqL K (upd H c (.lst (cutV (ns.map V.int) none (some 3)))) c ((ns.take 3).map V.int) := by
        refine .inl (.inl ?_)
        rw [upd_same]
        have e : cutV (ns.map V.int) none (some 3) = (ns.take 3).map V.int := by
          unfold cutV
          rw [HT.sIx_none, show HT.sIx (ns.map V.int).length (ns.map V.int).length (some 3) = min 3 (ns.map V.int).length from HT.sIx_nat _ _ 3]
          rw [List.drop_zero, List.map_take, Nat.sub_zero]
          exact List.take_eq_take_min.symm
        rw [e]
      refine ⟨c, rfl, ⟨_, hc⟩, for_list (xs := (ns.take 3).map V.int) (fun i σ H' => H' = upd H c (.lst (cutV (ns.map V.int) none (some 3))) ∧ ∃ (x : Int) (y : Option V), σ = [some (.ref a), some (.int k), some (.int x), y] ∧ 0 ≤ x ∧ x < 2147483269) ⟨rfl, _, _, rfl, Int.emod_nonneg _ (by decide), Int.emod_lt_of_pos _ (by decide)⟩ (fun i σ H' _ h => by rw [h.1]; exact hc) (fun i x σ H' hx hP => ?_) (fun σ H' hP => ?_)⟩
      · obtain ⟨rfl, s, y, rfl, b0, b1⟩ := hP
        have hx2 : ∃ n : Int, x = .int n := by
          rw [List.getElem?_map] at hx
          cases e : (ns.take 3)[i]? with
          | none => rw [e] at hx; cases hx
          | some n => rw [e] at hx; exact ⟨n, (Option.some.inj hx).symm⟩
        obtain ⟨n, rfl⟩ := hx2
        refine ⟨_, rfl, _, _, rfl, rfl, .inr ⟨by decide, by decide⟩, _, rfl, _, _, rfl, rfl, _, _, rfl, rfl, (by show (0 : Int) < 2147483269; decide), ?_⟩
        exact ⟨rfl, _, _, rfl, Int.emod_nonneg _ (by decide), Int.emod_lt_of_pos _ (by decide)⟩
      · obtain ⟨rfl, s, y, rfl, b0, b1⟩ := hP
        exact ⟨_, rfl, q _ _ (same_upd nc)⟩
theorem o_law_pool (T : Txt K mg)  : Gives P w K mg base CX0 1 "_law_pool" spPool := by
  refine gives_fun T.d_law_pool sc_law_pool (fun _ _ _ _ _ _ us hl => match us, hl with | [_], _ => rfl) (fun vs H Q E h => ?_) (fun f cdv A outer s H vs Q E hr h => ?_)
  · obtain ⟨i, rfl, _⟩ := h
    rfl
  · obtain ⟨i, rfl, q⟩ := h
    refine ⟨_, (pss_cons (ps_set (i := 1) sc_law_pool.nd rfl (Or.inl rfl) (pe_ifExp (PW.pt (pw_or (pt_cmpR op_lt (pv 0) pe_int (nomark _)) (pw_or1 (pt_cmpR op_ge (pv 0) (pe_powc 1000000000000000000 ⟨by decide, by decide, by decide⟩ (by decide)) (nomark _))))) (pe_callB call_abs (by rfl) T.n_abs (by decide +kernel) (pa_cons (pv 0) pa_nil)) pe_int))
      (pss_one (ps_ret (pe_lst (pa_cons (pe_op op_mod (pv 0) pe_int) (pa_cons (pv 1) (pa_cons pe_int pa_nil))))))), ?_⟩
    have fin : ∀ d : Int, 0 ≤ d → (tRet (tLst (tCons (tOp (rI (fun _ j => 0 < j) fun i j => .int (i % j)) (tVar 0) (tC (.int 2147483269))) (tCons (tVar 1) (tCons (tC (.int 0)) tNil))))) { nx := fun _ H' => Q .non H', rt := Q } [some (.int i), some (.int d)] H := by
      intro d hd
      refine ⟨_, rfl, _, _, rfl, rfl, (by show (0 : Int) < 2147483269; decide), _, rfl, (by show 3 ≤ sizeLine; decide), fun p np => ?_⟩
      exact q _ p (same_upd np) np ⟨_, _, _, upd_same, Int.emod_nonneg _ (by decide), Int.emod_lt_of_pos _ (by decide), hd⟩
    refine ⟨_, rfl, _, _, rfl, rfl, _, rfl, ite2 (fun c => ?_) (fun c => ?_)⟩
    · refine iteT' rfl ?_
      exact ⟨_, rfl, _, rfl, fin _ (by split <;> omega)⟩
    · refine ⟨_, rfl, _, _, rfl, rfl, _, rfl, ite2 (fun c => ?_) (fun c => ?_)⟩
      · exact ⟨_, rfl, _, rfl, fin _ (by split <;> omega)⟩
      · exact fin 0 (Int.le_refl 0)
theorem o_law (T : Txt K mg) (g_law_cell : Gives P w K mg base CX0 1 "_law_cell" (spCell K)) (g_law_pool : Gives P w K mg base CX0 1 "_law_pool" spPool) (g_law_right : GivesG P w K mg base CX0 9 "_law_right" spRight) : GivesG P w K mg base CX0 10 "law" (spLaw K) := by
  have g_law_limits_right : GivesG P w K mg base CX0 9 "_law_limits_right" (spF D_law_limits_right) := g_law_limits_right T
  have g_law_truths_right : Gives P w K mg base CX0 5 "_law_truths_right" (spF D_law_truths_right) := g_law_truths_right T
  refine givesG_fun T.d_law sc_law (fun _ _ _ _ _ _ us hl => match us, hl with | [_], _ => rfl) (fun vs H Q E h => ?_) (fun f cdv A outer s H vs Q E hgd hr h => ?_)
  · obtain ⟨a, ns, rfl, _⟩ := h
    rfl
  · obtain ⟨a, ns, rfl, hS, hl, hbit, q⟩ := h
    letI : TabsC := ⟨fun _ => True, fun _ _ => trivial⟩
    refine ⟨_, (pss_cons (ps_if (okT_pt (F := (fOr (fNot (fTru (fOwn D_law_limits_right fNil))) (fNot (fTru (fOwn D_law_truths_right fNil))))) ?h0) (pss_one (ps_ret pe_bl)) pss_nil) (pss_one (ps_ret (pe_callB (cr_all rfl) (by rfl) T.n_all (by decide +kernel) (pa_cons (pe_lc (own := [("_law_k", 1)]) rfl sc_law.nd (pi_range1 (by rfl) T.n_range (pa_cons (pe_callB (call_max2 rfl) (by rfl) T.n_max (by decide +kernel) (pa_cons pe_int (pa_cons (pe_callB (call_min2 rfl) (by rfl) T.n_min (by decide +kernel) (pa_cons (pe_callB call_len_seq (by rfl) T.n_len (by decide +kernel) (pa_cons (pv 0) pa_nil)) (pa_cons pe_int pa_nil))) pa_nil))) pa_nil)) (blkOk_by (N := ["_law_script", "_law_k"]) (sc := defScope s_law) (by decide +kernel)) (fun _ _ _ _ _ => (pg_name (i := 1) sc_law.nd rfl (Or.inl rfl))) (fun _ _ _ _ _ => pts_nil) (fun _ _ _ _ _ => (pe_ownG g_law_right hgd (hr.mono (by decide)) (by rfl) pass0 (pa_cons (pe_own g_law_pool (hr.mono (by decide)) (by rfl) pass0 (pa_cons (pe_own g_law_cell (hr.mono (by decide)) (by rfl) pass0 (pa_cons (pv 0) (pa_cons (pv 1) pa_nil))) pa_nil)) pa_nil)))) pa_nil))))), ?rd⟩
    case h0 => exact (t_w (w_or (t_not (t_truth (o_ownG0 g_law_limits_right hgd (hr.mono (by omega)) (by rfl) pass0))) (w_or1 (t_not (t_truth (o_own0 g_law_truths_right (hr.mono (by omega)) (by rfl) pass0))))))
    have R0 : Rel ⟨[], [], noT H⟩ [] [some (.ref a), none] H (.fix (.ref a) :: List.replicate 1 .un) := rel_fix trivial rfl rfl
    show tSeq _ _ _ [some (.ref a), none] H
    refine lw_if _ R0 ?_ ?_
    · have e1 := e_law_limits_right
      have e2 := e_law_truths_right
      exact or_own e1 e2 ⟨rfl, rfl⟩
    intro M1 H0 R1
    have s0 : ExtN H H0 := R1.ext0
    have hS0 := sql_ext s0 hS
    have hlen : (((ns.map V.int).length : Nat) : Int) = (ns.length : Int) := by rw [List.length_map]
    refine ⟨_, rfl, a, _, rfl, .inl hS0, _, _, rfl, _, _, rfl, _, rfl, by rw [hlen]; split <;> split <;> omega, by rw [hlen]; split <;> split <;> omega, fun D nD => ?_⟩
    refine lc_range (fun i H' => ExtN H H' ∧ H' D = some (.lst ((List.replicate i true).map V.bl))) ⟨ex_same (same_upd nD) s0, upd_same⟩ (fun i H' hi hI => ?_) (fun H' hI => ?_)
    · obtain ⟨sm, hD⟩ := hI
      have hi63 : i < 1000 := by
        have h2 := hi
        rw [hlen] at h2
        split at h2 <;> split at h2 <;> omega
      refine ⟨rfl, ⟨_, rfl, _, rfl, a, ns, _, rfl, sql_ext sm hS, hl, by omega, by omega, fun H1' r s1' => ⟨r, rfl, fun H2' p s2' np P2 => ⟨p, rfl, P2, fun H3' s3 P3 => ?_⟩⟩⟩⟩
      have hD2 : H2' D = some (.lst ((List.replicate i true).map V.bl)) := s2' _ _ (s1' _ _ hD)
      have nDp : D ≠ p := ne_of_none (s1' _ _ hD) np
      have e3 : ExtN H H3' := fun b o e hn => s3.at (s2' _ _ (s1' _ _ (sm b o e hn))) (ne_of_none (s1' _ _ (sm b o e hn)) np)
      refine ⟨_, s3.at hD2 nDp, by rw [List.length_map, List.length_replicate]; exact Nat.lt_of_lt_of_le hi63 (by decide), ex_over s0 nD e3, ?_⟩
      rw [upd_same, List.replicate_succ', List.map_append]
      rfl
    · obtain ⟨sm, hD⟩ := hI
      exact ⟨D, _, rfl, .inl (.inl hD), bl_cast (by simp) (q _)⟩

end

/-! k15: the law's promise. -/
theorem fin {P : Program} {w : World} {K : PySem.W.Frag} {mg : Str → Option Value} {fa : Addr} {h : Heap} (X : K.In h) (T : Txt K mg) (hmg : mg "law" = some (.ref fa)) :
    ∀ base : Heap, K.In base → base.Ns mainGlobals mg → FnG P w K mg base CX0 10 fa (spLaw K) := by
  intro base _ _
  have k1 := o_law_cell (P := P) (w := w) (base := base) T
  have k2 := o_law_pool (P := P) (w := w) (base := base) T
  have r := (g_law_right (P := P) (w := w) (base := base) T).imp fun _ _ _ _ => right_conv
  obtain ⟨f, hm, hk, F⟩ := o_law T k1 k2 r
  have e : f = fa := by
    have e2 := hm.symm.trans hmg
    injection e2 with e3
    injection e3
  subst e
  exact F

/-! k15, part Q: the facts by a Hook. -/
theorem txt_k15 {w : World} {h : Heap} {K : PySem.W.Frag} {mg : Str → Option Value} (c : He.SaysX fa_k15 fn_k15 ts_k15 [] (exAll exs_k15) w h K) (X : K.In h) (G : h.Ns mainGlobals mg) : Txt K mg :=
  ⟨hx_st c X G 0 0 rfl rfl,
  hx_st c X G 1 1 rfl rfl,
  hx_st c X G 2 2 rfl rfl,
  hx_st c X G 3 3 rfl rfl,
  hx_st c X G 4 4 rfl rfl,
  hx_st c X G 5 5 rfl rfl,
  hx_st c X G 6 6 rfl rfl,
  hx_st c X G 7 7 rfl rfl,
  hx_st c X G 8 8 rfl rfl,
  hx_st c X G 9 9 rfl rfl,
  hx_st c X G 10 10 rfl rfl,
  hx_st c X G 11 11 rfl rfl,
  hx_st c X G 12 12 rfl rfl,
  hx_st c X G 13 13 rfl rfl,
  hx_st c X G 14 14 rfl rfl,
  hx_st c X G 15 15 rfl rfl,
  hx_st c X G 16 16 rfl rfl,
  hx_st c X G 17 17 rfl rfl,
  hx_st c X G 18 18 rfl rfl,
  hx_st c X G 19 19 rfl rfl,
  hx_st c X G 20 20 rfl rfl,
  hx_st c X G 21 21 rfl rfl,
  hx_st c X G 22 22 rfl rfl,
  hx_st c X G 23 23 rfl rfl,
  hx_st c X G 24 24 rfl rfl,
  hx_st c X G 25 25 rfl rfl,
  hx_st c X G 26 26 rfl rfl,
  hx_st c X G 27 27 rfl rfl,
  hx_st c X G 28 28 rfl rfl,
  hx_st c X G 29 29 rfl rfl,
  hx_st c X G 30 30 rfl rfl,
  hx_st c X G 31 31 rfl rfl,
  hx_free c X G 32 rfl,
  hx_free c X G 33 rfl,
  hx_free c X G 34 rfl,
  hx_free c X G 35 rfl,
  hx_free c X G 36 rfl,
  hx_free c X G 37 rfl,
  hx_free c X G 38 rfl,
  hx_free c X G 39 rfl,
  hx_free c X G 40 rfl,
  hx_free c X G 41 rfl,
  hx_free c X G 42 rfl,
  hx_free c X G 43 rfl,
  hx_free c X G 44 rfl,
  hx_free c X G 45 rfl,
  hx_free c X G 46 rfl,
  hx_free c X G 47 rfl,
  hx_free c X G 48 rfl,
  hx_free c X G 49 rfl,
  hx_free c X G 50 rfl,
  hx_int c X G 51 rfl,
  hx_int c X G 52 rfl,
  hx_int c X G 53 rfl,
  hx_int c X G 54 rfl,
  hx_int c X G 55 rfl,
  hx_int c X G 56 rfl,
  hx_int c X G 57 rfl,
  hx_int c X G 58 rfl,
  hx_str c X G 59 rfl,
  hx_str c X G 60 rfl,
  hx_int c X G 61 rfl,
  hx_tup c X G 62 0 rfl rfl rfl,
  hx_tup c X G 63 1 rfl rfl rfl,
  hx_tup c X G 64 2 rfl rfl rfl,
  hx_tup c X G 65 3 rfl rfl rfl,
  hx_tup c X G 66 4 rfl rfl rfl⟩

end Cb
end

open PySem PySem.W PySem.Calls PyProof.Rows
set_option maxRecDepth 100000 in
set_option maxHeartbeats 0 in
theorem PySem.Challenge.cw_codeback_k15_what_code_is_holds : PySem.Challenge.rw_codeback_k15_what_code_is.Holds := by
  w_on; o_law
  refine HandSHeadRun.head_any (r := OpenLaw.row PySem.Challenge.rw_codeback_k15_what_code_is) (q := view (OpenLaw.row PySem.Challenge.rw_codeback_k15_what_code_is).prog [53]) (H := Cb.hk_k15) (ob := Cb.ob_k15) (M := 8000) (loose := Cb.nm_k15) (d := HandSHeadRun.topDef (OpenLaw.row PySem.Challenge.rw_codeback_k15_what_code_is).prog 53) (kwd := []) Cb.ob_eq_k15
    (by kernel_rfl) (fun s => by kernel_rfl) Cb.run_k15 (by kernel_rfl) (by kernel_rfl) (by kernel_rfl) (by rfl) (by first | assumption | decide +kernel) (by decide +kernel) ⟨rfl, rfl, rfl, rfl, rfl, by decide +kernel⟩ ?hw ?hc
  case hw => w_witness2
  case hc =>
    refine Cb.walk_ofGE (l := PySem.Challenge.rw_codeback_k15_what_code_is) (n := 63) (k := 10) (CX := fun _ => L2.CX0) rfl (by decide) (by kernel_rfl) ⟨rfl, by decide, by decide⟩ ?F (fun _ _ _ _ _ z => z)
    intro w mg fa h Y G hmg0
    obtain ⟨K, KX, c⟩ := Y
    have hmg : mg ("law" : PySem.Str) = some (.ref fa) := by
      have e : (HandSHeadRun.topDef (OpenLaw.row PySem.Challenge.rw_codeback_k15_what_code_is).prog 53).name = ("law" : PySem.Str) := by kernel_rfl
      rw [← e]
      exact hmg0
    exact ⟨K, Cb.spLaw K, KX, Cb.fin KX (Cb.txt_k15 c KX G) hmg, fun H a ns hl hb hS => ⟨a, ns, rfl, hS, hl, hb, fun _ => rfl⟩⟩
#print axioms PySem.Challenge.cw_codeback_k15_what_code_is_holds

