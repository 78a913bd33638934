import PyProof.Rows.All
import Wide.All
import OpenK.AllK
import Wide.FinOn
import PyProof.EqAt
import PyProof.EqKinds
import PyProof.TupleCall
import PyProof.EqLayable
import KE.KStateDown
import HandS.Base
import HandS.Call
import HandS.List
import HandS.Comp
import HandS.Ends
import HandS.Dict
import HandS.Iter
import HandS.Text
import HandS.More
import HandS.Words
import HandS.WordsList
import HandS.WordsDict
import HandS.Exc
import HandS.ExcCtx
import HandS.TryOnly
import HandS.ExcOwn
import HandS.ExcInit
import HandS.ExcInitHot
import HandS.ExcField
import HandS.ExcIs
import HandS.SuiteRaise
import HandS.RaiseFrom
import HandS.HotCalls
import HandS.WordsExc
import HandS.Defaults
import HandS.Star
import HandS.Property
import HandS.IsInst
import HandS.Wide
import HandS.Flow
import HandS.TupAny
import HandS.Conv
import HandS.DictComp
import HandS.Head0
import HandS.Head1
import HandS.Head2
import HandS.HeadEnd
import HandS.HeadHook1
import HandS.HeadHook2
import HandS.HeadWalk
import PySem.Challenge.RW_aimstoldback_k88_whole_steps_undone
set_option Elab.async false
set_option linter.all false
set_option maxRecDepth 100000
set_option maxHeartbeats 4000000
namespace K9
open PySem PySem.Spec PyProof.Rows L2
/-! The base of all: what may change in a heap, data that stands still, readings in small steps. -/
/-! ### what a step may change: only objects of M; a tuple never changes; nothing is lost -/
def isT : HO → Bool
  | .tup _ => true
  | .frz _ (.tup _) => true
  | _ => false
structure Ch (M : List Addr) (H H' : Hp) : Prop where
  keep : ∀ a o, H a = some o → (a ∉ M ∨ isT o = true) → H' a = some o
  dom : ∀ a, H' a = none → H a = none
section
variable {M M' : List Addr} {H H' H1 H2 : Hp} {a p : Addr} {o u : HO} {K : PySem.W.Frag}
theorem Ch.refl : Ch M H H := ⟨fun _ _ h _ => h, fun _ h => h⟩
theorem Ch.trans (c : Ch M H H1) (d : Ch M H1 H2) : Ch M H H2 := ⟨fun a o h n => d.keep a o (c.keep a o h n) n, fun a h => c.dom a (d.dom a h)⟩
theorem Ch.mono (c : Ch M H H1) (s : ∀ a, a ∈ M → a ∈ M') : Ch M' H H1 := ⟨fun a o h n => c.keep a o h (n.imp (fun z y => z (s a y)) id), c.dom⟩
theorem Ch.nil (c : Ch [] H H1) : Ch M H H1 := c.mono (fun _ z => absurd z (by simp))
theorem Ch.step (c : Ch M H H1) (d : Ch [] H1 H2) : Ch M H H2 := c.trans d.nil
/-- a new object -/
theorem Ch.new (h : H p = none) : Ch M H (upd H p o) := ⟨fun a u e _ => by rw [upd_ne (ne_of_none e h)]; exact e, fun a e => by
  by_cases q : a = p
  · rw [q] at e; rw [upd_same] at e; cases e
  · rwa [upd_ne q] at e⟩
theorem Ch.add (c : Ch M H H1) (h : H1 p = none) : Ch M H (upd H1 p o) := c.trans (Ch.new h)
/-- an object that was not there at the start may change -/
theorem Ch.own (c : Ch M H H1) (h : H p = none) : Ch M H (upd H1 p o) := ⟨fun a u e n => by rw [upd_ne (ne_of_none e h)]; exact c.keep a u e n, fun a e => by
  by_cases q : a = p
  · rw [q]; exact h
  · rw [upd_ne q] at e; exact c.dom a e⟩
/-- one of M changes -/
theorem Ch.set (c : Ch M H H1) (m : p ∈ M) (h : H1 p = some u) (t : isT u = false) : Ch M H (upd H1 p o) := ⟨fun a w e n => by
  by_cases q : a = p
  · subst q
    rcases n with n | n
    · exact absurd m n
    · have z := c.keep a w e (.inr n)
      rw [h] at z
      cases z
      rw [t] at n
      cases n
  · rw [upd_ne q]; exact c.keep a w e n, fun a e => by
  by_cases q : a = p
  · subst q; rw [upd_same] at e; cases e
  · rw [upd_ne q] at e; exact c.dom a e⟩
theorem Ch.at (c : Ch M H H') (h : H a = some o) (n : a ∉ M) : H' a = some o := c.keep a o h (.inl n)
theorem Ch.at0 (c : Ch [] H H') (h : H a = some o) : H' a = some o := c.keep a o h (.inl (by simp))
theorem Ch.tup {xs : List V} (c : Ch M H H') (h : H a = some (.tup xs)) : H' a = some (.tup xs) := c.keep a _ h (.inr rfl)
theorem Ch.sqt {xs : List V} (c : Ch M H H') (h : SqT K H a xs) : SqT K H' a xs := by
  rcases h with (h | ⟨o, h⟩) | h
  · exact .inl (.inl (c.keep _ _ h (.inr rfl)))
  · exact .inl (.inr ⟨o, c.keep _ _ h (.inr rfl)⟩)
  · exact .inr h
theorem Ch.rd (c : Ch M H H') (h : Rd H a o) (n : a ∉ M) : Rd H' a o := by
  rcases h with h | ⟨o, h⟩
  · exact .inl (c.at h n)
  · exact .inr ⟨o, c.at h n⟩
theorem Ch.sql {xs : List V} (c : Ch M H H') (h : SqL K H a xs) (n : a ∉ M) : SqL K H' a xs := by
  rcases h with h | h
  · exact .inl (c.rd h n)
  · exact .inr h
theorem Ch.free (c : Ch M H H') (h : H' a = none) : H a = none := c.dom a h
theorem Ch.same (c : Ch [] H H') : Same H H' := fun _ _ h => c.at0 h
theorem Ch.of_same (c : Same H H') : Ch [] H H' := ⟨fun a o h _ => c a o h, fun a h => c.free h⟩
end
/-! ### data that stands still: None, bools, ints, texts and tuples of these -/
mutual
inductive Dt (K : PySem.W.Frag) (H : Hp) : V → PyData → Prop
  | non : Dt K H .non .none
  | bl (b : Bool) : Dt K H (.bl b) (.bool b)
  | int (i : Int) : Dt K H (.int i) (.int i)
  | str (x : Str) : Dt K H (.str x) (.str x)
  | tup {a : Addr} {xs : List V} {ds : List PyData} : SqT K H a xs → Dts K H xs ds → Dt K H (.ref a) (.tuple ds)
inductive Dts (K : PySem.W.Frag) (H : Hp) : List V → List PyData → Prop
  | nil : Dts K H [] []
  | cons {v : V} {vs : List V} {d : PyData} {ds : List PyData} : Dt K H v d → Dts K H vs ds → Dts K H (v :: vs) (d :: ds)
end
section
variable {K : PySem.W.Frag} {M : List Addr} {H H' : Hp}
mutual
theorem Dt.mono (c : Ch M H H') : ∀ {v : V} {d : PyData}, Dt K H v d → Dt K H' v d
  | _, _, .non => .non
  | _, _, .bl b => .bl b
  | _, _, .int i => .int i
  | _, _, .str x => .str x
  | _, _, .tup h hs => .tup (c.sqt h) (Dts.mono c hs)
theorem Dts.mono (c : Ch M H H') : ∀ {v : List V} {d : List PyData}, Dts K H v d → Dts K H' v d
  | _, _, .nil => .nil
  | _, _, .cons h hs => .cons (Dt.mono c h) (Dts.mono c hs)
end
mutual
theorem Dt.dp : ∀ {v : V} {d : PyData}, Dt K H v d → Dp K H v d
  | _, _, .non => .non
  | _, _, .bl b => .bl b
  | _, _, .int i => .int i
  | _, _, .str x => .str x
  | _, _, .tup h hs => .tup h (Dts.dp hs)
theorem Dts.dp : ∀ {v : List V} {d : List PyData}, Dts K H v d → DpAll K H v d
  | _, _, .nil => .nil
  | _, _, .cons h hs => .cons (Dt.dp h) (Dts.dp hs)
end
theorem Dts.len : ∀ {vs : List V} {ds : List PyData}, Dts K H vs ds → vs.length = ds.length
  | _, _, .nil => rfl
  | _, _, .cons _ h => by rw [List.length_cons, List.length_cons, h.len]
theorem Dts.get : ∀ {vs : List V} {ds : List PyData} {i : Nat} {v : V}, Dts K H vs ds → vs[i]? = some v → ∃ d, ds[i]? = some d ∧ Dt K H v d
  | _, _, _, _, .nil, h => by simp at h
  | _, _, 0, _, .cons h _, e => by simp at e; subst e; exact ⟨_, rfl, h⟩
  | _, _, i + 1, _, .cons _ t, e => by
    obtain ⟨d, h1, h2⟩ := Dts.get (i := i) t (by simpa using e)
    exact ⟨d, by simpa using h1, h2⟩
theorem Dts.append : ∀ {vs ws : List V} {ds es : List PyData}, Dts K H vs ds → Dts K H ws es → Dts K H (vs ++ ws) (ds ++ es)
  | _, _, _, _, .nil, h => h
  | _, _, _, _, .cons h t, k => .cons h (t.append k)
end
/-! Rules that do not ask of which kind a value is; readings in small steps. -/
/-! ### rules for any kind -/
def rAddI : R2 := rI0 fun i j => .int (i + j)
def rAddS : R2 := fun x y H Q => ∃ i j, x = .str i ∧ y = .str j ∧ i.length + j.length ≤ sizeLine ∧ Q (.str (i ++ j)) H
def rAddG (K : PySem.W.Frag) : R2 := fun x y H Q => rAddI x y H Q ∨ (rAddS x y H Q ∨ (rCat x y H Q ∨ rCatA K x y H Q))
def rMulG : R2 := fun x y H Q => rI (fun i _ => -(2 ^ 64) < i ∧ i < 2 ^ 64) (fun i j => .int (i * j)) x y H Q ∨ rRep x y H Q
def rEqG (K : PySem.W.Frag) : R2 := fun x y H Q => rEq x y H Q ∨ rEqD K x y H Q
def rNeG (K : PySem.W.Frag) : R2 := fun x y H Q => rNe x y H Q ∨ rNeD K x y H Q
def rInSub : R2 := fun x y H Q => ∃ i j, x = .str i ∧ y = .str j ∧ Q (.bl (!(Builtin.Str.occurrences j i 0 j.length 1).isEmpty)) H
def rInSign : R2 := fun x y H Q => ∃ (c : Nat) (z : Str), x = .str ⟨#[c]⟩ ∧ y = .str z ∧ Q (.bl (decide (c ∈ z.cps.toList))) H
def rNotInSign : R2 := fun x y H Q => ∃ (c : Nat) (z : Str), x = .str ⟨#[c]⟩ ∧ y = .str z ∧ Q (.bl (!decide (c ∈ z.cps.toList))) H
def rInG (K : PySem.W.Frag) : R2 := fun x y H Q => rIn K false x y H Q ∨ rInSign x y H Q
def rNotInG (K : PySem.W.Frag) : R2 := fun x y H Q => rIn K true x y H Q ∨ rNotInSign x y H Q
def rLenSq (K : PySem.W.Frag) : List V → Hp → VK → Prop := fun xs H Q => ∃ p ys, xs = [.ref p] ∧ (SqL K H p ys ∨ SqT K H p ys) ∧ Q (.int ys.length) H
def rLenSt : List V → Hp → VK → Prop := fun xs H Q => ∃ z, xs = [.str z] ∧ z.length ≤ sizeLine ∧ Q (.int z.length) H
def rLenD : List V → Hp → VK → Prop := fun xs H Q => ∃ a kvs, xs = [V.ref a] ∧ H a = some (.dK kvs) ∧ Q (.int kvs.length) H
def rLenG (K : PySem.W.Frag) : List V → Hp → VK → Prop := fun xs H Q => rLenSq K xs H Q ∨ (rLenSt xs H Q ∨ rLenD xs H Q)
def rSlG (K : PySem.W.Frag) : V → Option Int → Option Int → Hp → VK → Prop := fun x lo hi H Q => rSlL K x lo hi H Q ∨ (rSlS x lo hi H Q ∨ rSlA K x lo hi H Q)
def rListL (K : PySem.W.Frag) : List V → Hp → VK → Prop := fun xs H Q => ∃ p ys, xs = [.ref p] ∧ (SqL K H p ys ∨ SqT K H p ys) ∧ ∀ l, H l = none → Q (.ref l) (upd H l (.lst ys))
def rListDk : List V → Hp → VK → Prop := fun xs H Q => ∃ (a : Addr) (kvs : List (Key × V)), xs = [.ref a] ∧ Rd H a (.dK kvs) ∧ ∀ p, H p = none → Q (.ref p) (upd H p (.lst (kvs.map fun kv => kV kv.1)))
def rListG (K : PySem.W.Frag) : List V → Hp → VK → Prop := fun xs H Q => rListL K xs H Q ∨ rListDk xs H Q
def rIntG : List V → Hp → VK → Prop := fun xs H Q => (∃ i, xs = [.int i] ∧ Q (.int i) H) ∨ ∃ k, xs = [.bl k] ∧ Q (.int (if k then 1 else 0)) H
def rDictD : List V → Hp → VK → Prop := fun xs H Q => ∃ (a : Addr) (kvs : List (Key × V)), xs = [.ref a] ∧ Rd H a (.dK kvs) ∧ ∀ p, H p = none → Q (.ref p) (upd H p (.dK kvs))
section
variable {X : Cx}
theorem op_addG : OpR X (binaryOp .Add) (rAddG X.K) := OpR.or op_add (OpR.or op_add_str (OpR.or op_cat op_catA))
theorem op_mulG : OpR X (binaryOp .Mult) rMulG := OpR.or (fun pins s σ H x y v u Q I rx ry h => op_mul pins s σ H x y v u Q I rx ry (by
  obtain ⟨i, j, ex, ey, hc, q⟩ := h
  exact ⟨i, j, ex, ey, .inl hc, q⟩)) op_rep
theorem op_eqG (hu : X.A.units + 64 < cLine) : OpR X (compareOp .Eq) (rEqG X.K) := OpR.or op_eq (op_eqD hu)
theorem op_neG (hu : X.A.units + 64 < cLine) : OpR X (compareOp .NotEq) (rNeG X.K) := OpR.or op_ne (op_neD hu)
theorem op_inG : OpR X (compareOp .In) (rInG X.K) := OpR.or op_in_seq op_in_sign
theorem op_notInG : OpR X (compareOp .NotIn) (rNotInG X.K) := OpR.or op_notIn_seq op_notIn_sign
theorem call_lenG : CallR X (.builtin "len") (rLenG X.K) := CallR.or call_len_seq (CallR.or call_len_str call_lenD)
theorem sl_G : SlR X (rSlG X.K) := SlR.or sl_list (SlR.or sl_str sl_tupA)
theorem call_listG (hc : X.calm = true) : CallR X (.type "list") (rListG X.K) := CallR.or call_list_of (call_listD hc)
theorem call_intG : CallR X (.type "int") rIntG := call_int1
theorem call_dictG : CallR X (.type "dict") rDictD := call_dictD
end
/-! ### what a step leaves to be answered, by name -/
def NewT (xs : List V) (H : Hp) (Q : VK) : Prop := xs.length ≤ sizeLine ∧ ∀ p, H p = none → Q (.ref p) (upd H p (.tup xs))
def NewL (xs : List V) (H : Hp) (Q : VK) : Prop := xs.length ≤ sizeLine ∧ ∀ p, H p = none → Q (.ref p) (upd H p (.lst xs))
def BlQ (Q : Bool → Hp → Prop) (x : V) (H : Hp) : Prop := ∃ k, x = .bl k ∧ Q k H
def InQ (Q : Option Int → Hp → Prop) (x : V) (H : Hp) : Prop := ∃ i, x = .int i ∧ Q (some i) H
theorem newT {xs : List V} {H : Hp} {Q : VK} (hl : xs.length ≤ 100000) (k : ∀ p H2, H p = none → Ch [] H H2 → H2 p = some (.tup xs) → Q (.ref p) H2) : NewT xs H Q :=
  ⟨Nat.le_trans hl (by decide), fun p hp => k p _ hp (Ch.new hp) upd_same⟩
theorem newL {xs : List V} {H : Hp} {Q : VK} (hl : xs.length ≤ 100000) (k : ∀ p H2, H p = none → Ch [] H H2 → H2 p = some (.lst xs) → Q (.ref p) H2) : NewL xs H Q :=
  ⟨Nat.le_trans hl (by decide), fun p hp => k p _ hp (Ch.new hp) upd_same⟩
theorem blq {Q : Bool → Hp → Prop} {b : Bool} {H : Hp} (k : Q b H) : BlQ Q (.bl b) H := ⟨b, rfl, k⟩
theorem inq {Q : Option Int → Hp → Prop} {i : Int} {H : Hp} (k : Q (some i) H) : InQ Q (.int i) H := ⟨i, rfl, k⟩
theorem itb {b : Bool} {A B : Prop} (h1 : b = true → A) (h2 : b = false → B) : if b = true then A else B := by
  cases b with
  | true => exact iteT (h1 rfl)
  | false => exact iteF (h2 rfl)
theorem itT {b : Bool} {A B : Prop} (h : b = true) (k : A) : if b = true then A else B := by rw [h]; exact iteT k
theorem itF {b : Bool} {A B : Prop} (h : b = false) (k : B) : if b = true then A else B := by rw [h]; exact iteF k
theorem itd {c A B : Prop} [Decidable c] (h1 : c → A) (h2 : ¬ c → B) : if decide c = true then A else B :=
  itb (fun h => h1 (of_decide_eq_true h)) (fun h => h2 (of_decide_eq_false h))
theorem itn {c A B : Prop} [Decidable c] (h1 : ¬ c → A) (h2 : c → B) : if (!decide c) = true then A else B := by
  by_cases h : c
  · rw [decide_eq_true h]; exact iteF (h2 h)
  · rw [decide_eq_false h]; exact iteT (h1 h)
/-! ### calls of a def by its promise; E at the caller's slots -/
def tCallR (sp : Sp) (E : L2.St → XK) (t : TA) : TE := fun σ H Q => t σ H fun vs H1 => sp vs H1 Q (E σ)
section
variable {X : Cx} {CX : CXT} {k : Nat} {f C : Addr} {sp : Sp} {E : L2.St → XK} {x m : Str} {p pos apos : Pos} {e o : Expr} {es : List Expr} {t : TA} {ta : TE}
theorem run_fnA {pins : List (Addr × Obj)} {σ : L2.St} {H : Hp} {s : Shared} {Q : VK} {us : List Value} {vs : List V} (F : FnR X.prog X.w X.K X.mg X.base CX k f sp) (hr : Room k X.A) (hx : ∀ σ, PassesAt CX X σ (E σ)) (I : Inv X pins σ H s) (r : Vals vs us) (h : sp vs H Q (E σ)) :
    wpAny (model X.prog X.w) X.A (PySem.call (.ref f) us) (EP X pins σ Q) X.xe s := by
  refine wpAny_call (codeAny_mono (F X.A X.stack s H us vs Q (E σ) hr I.env0 r h) fun r s' hq => ?_)
  match r, hq with
  | .error er, hq => exact hx σ pins H s er s' I hq
  | .ok (.ret u), hq => exact I.after hq
  | .ok .next, hq => exact hq.elim
  | .ok .brk, hq => exact hq.elim
  | .ok .cont, hq => exact hq.elim
theorem pe_cf (F : FnR X.prog X.w X.K X.mg X.base CX k f sp) (hr : Room k X.A) (hk : PySem.W.keepIn X.K (.ref f) = true) (hm : X.mg x = some (.ref f)) (hx : ∀ σ, PassesAt CX X σ (E σ)) (ha : PA X (e :: es) t) (hg : Gl X x := by rfl) (hd : (x == ("__debug__" : Str)) = false := by decide)
    (he : starEach (e :: es) X.env = (false, eval e X.env) :: starEach es X.env := by rfl) (hpl : (backTo pos (starEach es X.env)).any (·.1) = false := by rfl) :
    PE X (.Call (.Name x p) (e :: es) [] pos) (tCallR sp E t) :=
  ⟨fun pins s σ _ _ I h => wpAny_Call_Name_kw (ld_glob I hg hm
    (PySem.W.callWith_K (h₀ := X.base) I.ok.mod.kin hk (thn (ha.run pos pins s σ _ _ I h) fun _ _ ⟨_, _, J, r, q⟩ => ⟨J.kIn, run_fnA F hr hx J r q⟩) he hpl) hd)⟩
/-- o.m(e, ..) -/
def tMethA (C : Addr) (m : Str) (sp : Sp) (E : L2.St → XK) (ta : TE) (t : TA) : TE := fun σ H Q => ta σ H fun x H1 => ∃ a dx fs, x = .ref a ∧ H1 a = some (.ins C dx fs) ∧ fs.lookup m = none ∧ t σ H1 fun vs H2 => sp (.ref a :: vs) H2 Q (E σ)
theorem pe_cm {pl : Sem Bool} (he : PE X o ta) (c : Cls X.K C) (hm : Meth X.K C m f) (F : FnR X.prog X.w X.K X.mg X.base CX k f sp) (hr : Room k X.A) (hx : ∀ σ, PassesAt CX X σ (E σ)) (ha : PA X (e :: es) t)
    (hst : starEach (e :: es) X.env = (false, eval e X.env) :: starEach es X.env := by rfl) (hpl : (backTo pos (starEach es X.env)).any (·.1) = false := by rfl)
    (ht : eval (.Call (.Attribute o m apos) (e :: es) [] pos) X.env = (eval o X.env >>= fun ov => standAt apos.atName >>= fun _ => holding [ov] (getMethod ov m pl) >>= fun z => callWith pos z.1 z.2 (backTo pos (starEach (e :: es) X.env)) (backToKw pos (keywordEach [] X.env))) := by rfl) :
    PE X (.Call (.Attribute o m apos) (e :: es) [] pos) (tMethA C m sp E ta t) :=
  ⟨fun pins s σ _ _ I h => PySem.W.methodCall_KW (pl := pl) (thn (he.run pins s σ _ _ I h) fun u _ ⟨_, _, I1, rx, a, _, _, ex, ea, l, q⟩ => by
    subst ex
    cases (show u = Value.ref a from rx)
    exact getmeth_ok I1 ea c hm l (PySem.W.callWith_K (first := [.ref a]) (h₀ := X.base) I.ok.mod.kin hm.kp (thn (ha.run pos pins _ σ _ _ I1 q) fun us _ ⟨vs, _, I2, r, q2⟩ => ⟨I2.kIn, run_fnA (us := .ref a :: us) (vs := .ref a :: vs) F hr hx I2 (.cons rfl r) q2⟩) hst hpl)) ht⟩
/-- o.m() -/
theorem pe_cm0 {pl : Sem Bool} (he : PE X o ta) (c : Cls X.K C) (hm : Meth X.K C m f) (F : FnR X.prog X.w X.K X.mg X.base CX k f sp) (hr : Room k X.A) (hx : ∀ σ, PassesAt CX X σ (E σ))
    (ht : eval (.Call (.Attribute o m apos) [] [] pos) X.env = (eval o X.env >>= fun ov => standAt apos.atName >>= fun _ => holding [ov] (getMethod ov m pl) >>= fun z => callWith pos z.1 z.2 (backTo pos (starEach [] X.env)) (backToKw pos (keywordEach [] X.env))) := by rfl) :
    PE X (.Call (.Attribute o m apos) [] [] pos) (tMethA C m sp E ta tNil) :=
  ⟨fun pins s σ _ _ I h => PySem.W.methodCall_KW (pl := pl) (thn (he.run pins s σ _ _ I h) fun u _ ⟨_, _, I1, rx, a, _, _, ex, ea, l, q⟩ => by
    subst ex
    cases (show u = Value.ref a from rx)
    exact getmeth_ok I1 ea c hm l (by
      first
      | exact PySem.W.callWith_K1 I1.kIn hm.kp (run_fnA (us := [.ref a]) (vs := [.ref a]) F hr hx I1 (.cons rfl .nil) q)
      | exact PySem.W.callWith_K0 (first := [.ref a]) I1.kIn hm.kp (run_fnA (us := [.ref a]) (vs := [.ref a]) F hr hx I1 (.cons rfl .nil) q))) ht⟩
/-- o.f, a property -/
theorem at_any {E : XK} (h : Passes CX X E) : ∀ σ : L2.St, PassesAt CX X σ E := fun σ pins H s e s' I c => h pins σ H s e s' I c
theorem at0 : ∀ σ : L2.St, PassesAt CX0 X σ E0 := at_any pass0
end
/-! ### steps of a reading -/
section
variable {K : PySem.W.Frag} {σ : L2.St} {H : Hp} {Q : VK} {D : Ends} {ta tb tc te : TE} {t : TA} {tt uu : TT} {a b u : TS} {r r' : R2} {i : Nat} {v x y : V} {xs ys : List V} {p q : Addr} {g : TG}
theorem te_var (h : σ[i]? = some (some v)) (k : Q v H) : tVar i σ H Q := ⟨v, h, k⟩
theorem te_c (k : Q v H) : tC v σ H Q := k
theorem te_op (k : ta σ H fun x H1 => tb σ H1 fun y H2 => r x y H2 Q) : tOp r ta tb σ H Q := k
theorem te_un {r : V → Hp → VK → Prop} (k : ta σ H fun x H1 => r x H1 Q) : tUn r ta σ H Q := k
theorem te_nil {Q : List V → Hp → Prop} (k : Q [] H) : tNil σ H Q := k
theorem te_cons {Q : List V → Hp → Prop} (k : ta σ H fun x H1 => t σ H1 fun xs H2 => Q (x :: xs) H2) : tCons ta t σ H Q := k
theorem te_cb {r : List V → Hp → VK → Prop} (k : t σ H fun vs H1 => r vs H1 Q) : tCB r t σ H Q := k
theorem te_tup (k : t σ H fun xs H1 => NewT xs H1 Q) : tTup t σ H Q := k
theorem te_lst (k : t σ H fun xs H1 => NewL xs H1 Q) : tLst t σ H Q := k
theorem te_callR {sp : Sp} {E : L2.St → XK} (k : t σ H fun vs H1 => sp vs H1 Q (E σ)) : tCallR sp E t σ H Q := k
theorem te_then {r : V → Hp → VK → Prop} (k : te σ H fun x H1 => r x H1 Q) : tThen te r σ H Q := k
theorem te_if (k : tt σ H fun c H1 => if c = true then ta σ H1 Q else tb σ H1 Q) : tIf tt ta tb σ H Q := k
theorem te_sl {r : V → Option Int → Option Int → Hp → VK → Prop} {tl th : TO} (k : te σ H fun x H1 => tl σ H1 fun l H2 => th σ H2 fun u H3 => r x l u H3 Q) : L2.tSl r te tl th σ H Q := k
theorem te_part {Q : Option Int → Hp → Prop} (k : te σ H fun x H1 => InQ Q x H1) : tPart te σ H Q := k
theorem te_chain (k : ta σ H fun x H1 => tb σ H1 fun y H2 => r x y H2 fun z H3 => BlQ (fun k H3 => if k = true then tc σ H3 fun w' H4 => r' y w' H4 Q else Q (.bl false) H3) z H3) : tChain r r' ta tb tc σ H Q := k
theorem te_andV (k : ta σ H fun x H1 => BlQ (fun c H1 => if c = true then tb σ H1 Q else Q (.bl false) H1) x H1) : tAndV ta tb σ H Q := k
theorem te_orV (k : ta σ H fun x H1 => BlQ (fun c H1 => if c = true then Q (.bl true) H1 else tb σ H1 Q) x H1) : tOrV ta tb σ H Q := k
theorem te_notV (k : ta σ H fun x H1 => BlQ (fun c H1 => Q (.bl (!c)) H1) x H1) : tNotV ta σ H Q := k
theorem tt_test {Q : Bool → Hp → Prop} (k : te σ H fun x H1 => BlQ Q x H1) : tTest te σ H Q := k
theorem tt_b {Q : Bool → Hp → Prop} (k : te σ H fun x H1 => BlQ Q x H1) : tB te σ H Q := k
theorem tt_and {Q : Bool → Hp → Prop} (k : tt σ H fun c H1 => if c = true then uu σ H1 Q else Q false H1) : tAnd tt uu σ H Q := k
theorem tt_or {Q : Bool → Hp → Prop} (k : tt σ H fun c H1 => if c = true then Q true H1 else uu σ H1 Q) : tOr tt uu σ H Q := k
theorem tt_not {Q : Bool → Hp → Prop} (k : tt σ H fun c H1 => Q (!c) H1) : tNot tt σ H Q := k
theorem ts_seq (k : a ⟨u D, D.rt, D.bk, D.ct⟩ σ H) : tSeq a u D σ H := k
theorem ts_next (k : D.nx σ H) : tNext D σ H := k
theorem ts_asg (k : te σ H fun x H1 => g x σ H1 D.nx) : tAsg te g D σ H := k
theorem tg_name {Q : L2.St → Hp → Prop} (k : Q (σ.set i (some v)) H) : gName i v σ H Q := k
theorem tg_sub {Q : L2.St → Hp → Prop} {to ti : TE} {w : TSet} (k : to σ H fun o H1 => ti σ H1 fun i H2 => w o i v H2 fun H3 => Q σ H3) : gSub to ti w v σ H Q := k
theorem ts_drop (k : te σ H fun _ H1 => D.nx σ H1) : tDrop te D σ H := k
theorem ts_ret (k : te σ H D.rt) : tRet te D σ H := k
theorem ts_retN (k : D.rt .non H) : tRetN D σ H := k
theorem ts_if (k : tt σ H fun b H1 => if b = true then a D σ H1 else u D σ H1) : tIfS tt a u D σ H := k
theorem ts_brk (k : D.bk σ H) : tBreak D σ H := k
theorem ts_cnt (k : D.ct σ H) : tCont D σ H := k
theorem nd_nx {n : L2.St → Hp → Prop} {rt : VK} {bk ct : L2.St → Hp → Prop} (k : n σ H) : Ends.nx ⟨n, rt, bk, ct⟩ σ H := k
theorem nd_rt {n : L2.St → Hp → Prop} {rt : VK} {bk ct : L2.St → Hp → Prop} (k : rt v H) : Ends.rt ⟨n, rt, bk, ct⟩ v H := k
theorem nd_bk {n : L2.St → Hp → Prop} {rt : VK} {bk ct : L2.St → Hp → Prop} (k : bk σ H) : Ends.bk ⟨n, rt, bk, ct⟩ σ H := k
theorem nd_ct {n : L2.St → Hp → Prop} {rt : VK} {bk ct : L2.St → Hp → Prop} (k : ct σ H) : Ends.ct ⟨n, rt, bk, ct⟩ σ H := k
-- numbers and texts
theorem r_addI {i j : Int} (k : Q (.int (i + j)) H) : rAddG K (.int i) (.int j) H Q := .inl ⟨i, j, rfl, rfl, k⟩
theorem r_addS {i j : Str} (h : i.length + j.length ≤ 16777216) (k : Q (.str (i ++ j)) H) : rAddG K (.str i) (.str j) H Q := .inr (.inl ⟨i, j, rfl, rfl, by rw [sizeLine_eq]; exact h, k⟩)
theorem r_addL (h1 : H p = some (.lst xs)) (h2 : H q = some (.lst ys)) (hl : xs.length + ys.length ≤ 100000) (k : ∀ l H2, H l = none → Ch [] H H2 → H2 l = some (.lst (xs ++ ys)) → Q (.ref l) H2) : rAddG K (.ref p) (.ref q) H Q :=
  .inr (.inr (.inl ⟨p, q, xs, ys, rfl, rfl, h1, h2, Nat.le_trans hl (by decide), fun l hl => k l _ hl (Ch.new hl) upd_same⟩))
/-- a tuple and a tuple: some tuple of both -/
theorem r_addT (h1 : SqT K H p xs) (h2 : SqT K H q ys) (hl : xs.length + ys.length ≤ 100000) (k : ∀ l H2, Ch [] H H2 → SqT K H2 l (xs ++ ys) → Q (.ref l) H2) : rAddG K (.ref p) (.ref q) H Q := by
  refine .inr (.inr (.inr ⟨p, q, xs, ys, rfl, rfl, h1, h2, Nat.le_trans hl (by decide), fun e => ?_, fun _ e => ?_, fun _ _ l hl => ?_⟩))
  · subst e; exact k q H Ch.refl h2
  · subst e; refine k p H Ch.refl ?_; rw [List.append_nil]; exact h1
  · exact k l _ (Ch.new hl) (SqT.of upd_same)
theorem r_I {C : Int → Int → Prop} {g : Int → Int → V} {i j : Int} (c : C i j) (k : Q (g i j) H) : rI C g (.int i) (.int j) H Q := ⟨i, j, rfl, rfl, c, k⟩
theorem r_I0 {g : Int → Int → V} {i j : Int} (k : Q (g i j) H) : rI0 g (.int i) (.int j) H Q := ⟨i, j, rfl, rfl, k⟩
theorem r_mulI {i j : Int} (h : -(2 ^ 64) < i ∧ i < 2 ^ 64) (k : Q (.int (i * j)) H) : rMulG (.int i) (.int j) H Q := .inl ⟨i, j, rfl, rfl, h, k⟩
theorem r_mulL {j : Int} (h1 : H p = some (.lst xs)) (h2 : -(2 ^ 63) ≤ j ∧ j < 2 ^ 63) (hl : xs.length * j.toNat ≤ 100000) (k : ∀ l H2, H l = none → Ch [] H H2 → H2 l = some (.lst (List.replicate j.toNat xs).flatten) → Q (.ref l) H2) : rMulG (.ref p) (.int j) H Q :=
  .inr ⟨p, j, xs, rfl, rfl, h1, h2.1, h2.2, Nat.le_trans hl (by decide), fun l hl => k l _ hl (Ch.new hl) upd_same⟩
theorem r_eqI {i j : Int} (k : Q (.bl (decide (i = j))) H) : rEqG K (.int i) (.int j) H Q := .inl ⟨rfl, by
  rw [show decide (V.int i = V.int j) = decide (i = j) by simp]; exact k⟩
theorem r_eqS {i j : Str} (k : Q (.bl (decide (i = j))) H) : rEqG K (.str i) (.str j) H Q := .inl ⟨rfl, by
  rw [show decide (V.str i = V.str j) = decide (i = j) by simp]; exact k⟩
theorem r_neI {i j : Int} (k : Q (.bl (!decide (i = j))) H) : rNeG K (.int i) (.int j) H Q := .inl ⟨rfl, by
  rw [show decide (V.int i = V.int j) = decide (i = j) by simp]; exact k⟩
theorem r_neS {i j : Str} (k : Q (.bl (!decide (i = j))) H) : rNeG K (.str i) (.str j) H Q := .inl ⟨rfl, by
  rw [show decide (V.str i = V.str j) = decide (i = j) by simp]; exact k⟩
theorem r_eqD {d e : PyData} (h1 : Dt K H x d) (h2 : Dt K H y e) (s1 : SeqAt.shaped d = true) (s2 : SeqAt.shaped e = true) (k : Q (.bl (PyData.eqv d e)) H) : rEqG K x y H Q := .inr ⟨d, e, h1.dp, h2.dp, s1, s2, k⟩
theorem r_neD {d e : PyData} (h1 : Dt K H x d) (h2 : Dt K H y e) (s1 : SeqAt.shaped d = true) (s2 : SeqAt.shaped e = true) (k : Q (.bl (!PyData.eqv d e)) H) : rNeG K x y H Q := .inr ⟨d, e, h1.dp, h2.dp, s1, s2, k⟩
-- places, lengths
theorem r_ixL {i : Int} (h : SqL K H p xs) (e : atI xs i = some v) (k : Q v H) : rIx K (.ref p) (.int i) H Q := .inl ⟨p, xs, i, v, rfl, rfl, h, e, k⟩
theorem r_ixT {i : Int} (h : SqT K H p xs) (e : atI xs i = some v) (k : Q v H) : rIx K (.ref p) (.int i) H Q := .inr (.inl ⟨p, xs, i, v, rfl, rfl, h, e, k⟩)
theorem r_ixS {i : Int} {z : Str} {c : Nat} (h : z.length ≤ 16777216) (e : atI z.cps.toList i = some c) (k : Q (.str ⟨#[c]⟩) H) : rIx K (.str z) (.int i) H Q := .inr (.inr ⟨z, i, c, rfl, rfl, by rw [sizeLine_eq]; exact h, e, k⟩)
theorem r_lenL (h : SqL K H p xs) (k : Q (.int (xs.length : Int)) H) : rLenG K [.ref p] H Q := .inl ⟨p, xs, rfl, .inl h, k⟩
theorem r_lenT (h : SqT K H p xs) (k : Q (.int (xs.length : Int)) H) : rLenG K [.ref p] H Q := .inl ⟨p, xs, rfl, .inr h, k⟩
theorem r_lenS {z : Str} (h : z.length ≤ 16777216) (k : Q (.int (z.length : Int)) H) : rLenG K [.str z] H Q := .inr (.inl ⟨z, rfl, by rw [sizeLine_eq]; exact h, k⟩)
theorem r_lenD {kvs : List (Key × V)} (h : H p = some (.dK kvs)) (k : Q (.int (kvs.length : Int)) H) : rLenG K [.ref p] H Q := .inr (.inr ⟨p, kvs, rfl, h, k⟩)
theorem r_intI {i : Int} (k : Q (.int i) H) : rIntG [.int i] H Q := .inl ⟨i, rfl, k⟩
theorem r_intB {b : Bool} (k : Q (.int (if b then 1 else 0)) H) : rIntG [.bl b] H Q := .inr ⟨b, rfl, k⟩
theorem r_listL (h : SqL K H p xs) (k : ∀ l H2, H l = none → Ch [] H H2 → H2 l = some (.lst xs) → Q (.ref l) H2) : rListG K [.ref p] H Q := .inl ⟨p, xs, rfl, .inl h, fun l hl => k l _ hl (Ch.new hl) upd_same⟩
theorem r_listT (h : SqT K H p xs) (k : ∀ l H2, H l = none → Ch [] H H2 → H2 l = some (.lst xs) → Q (.ref l) H2) : rListG K [.ref p] H Q := .inl ⟨p, xs, rfl, .inr h, fun l hl => k l _ hl (Ch.new hl) upd_same⟩
theorem r_listD {kvs : List (Key × V)} (h : Rd H p (.dK kvs)) (k : ∀ l H2, H l = none → Ch [] H H2 → H2 l = some (.lst (kvs.map fun kv => kV kv.1)) → Q (.ref l) H2) : rListG K [.ref p] H Q := .inr ⟨p, kvs, rfl, h, fun l hl => k l _ hl (Ch.new hl) upd_same⟩
theorem r_set {Q : Hp → Prop} {i : Int} {j : Nat} (h : H p = some (.lst xs)) (e : ixN xs.length i = some j) (k : Q (upd H p (.lst (xs.set j v)))) : rSetL (.ref p) (.int i) v H Q := ⟨p, xs, i, j, rfl, rfl, h, e, k⟩
theorem r_isN (k : Q (.bl (decide (x = .non))) H) : (fun (x y : V) (H : Hp) (Q : VK) => y = .non ∧ Q (.bl (decide (x = .non))) H) x .non H Q := ⟨rfl, k⟩
end
/-! ### stores; places in written lists -/
section
variable {K : PySem.W.Frag} {H : Hp} {v : V} {xs : List V} {p a b : Addr} {M : List Addr}
theorem r_set' {Q : Hp → Prop} {i : Int} {j : Nat} (h : H p = some (.lst xs)) (e : ixN xs.length i = some j) (k : ∀ H2, Ch [p] H H2 → H2 p = some (.lst (xs.set j v)) → Q H2) : rSetL (.ref p) (.int i) v H Q :=
  r_set h e (k _ (Ch.set Ch.refl (List.mem_singleton.mpr rfl) h rfl) upd_same)
theorem ni0 : a ∉ ([] : List Addr) := by simp
theorem ni1 (h : a ≠ p) (h2 : a ∉ M) : a ∉ p :: M := by simp [h, h2]
theorem Ch.ne (c : Ch M H H) (h : H a = none) : True := trivial
end
/-! Loops and comprehensions by one structure of a walk. -/
structure Walks (J : It) (G : Hp → Prop) (n : Nat) (it : Nat → V → Prop) : Prop where
  stop : ∀ i H, G H → n ≤ i → J.stop i H
  go : ∀ i H, G H → i < n → J.go i H
  yld : ∀ i H x H', G H → J.yld i H x H' → H' = H ∧ it i x
theorem walks_rng {lo : Int} {n : Nat} : Walks (Itr lo n) (fun _ => True) n (fun i x => x = .int (lo + (i : Int))) := ⟨fun _ _ _ h => h, fun _ _ _ h => h, fun _ _ _ _ _ y => y⟩
theorem walks_lst {K : PySem.W.Frag} {a : Addr} {xs : List V} : Walks (Itl K a) (fun H => SqL K H a xs) xs.length (fun i x => xs[i]? = some x) :=
  ⟨fun _ _ g h => ⟨xs, g, h⟩, fun i _ g h => ⟨xs, xs[i], g, List.getElem?_eq_getElem h⟩, fun _ _ _ _ g y => ⟨y.1, y.2 xs g⟩⟩
theorem walks_tup {K : PySem.W.Frag} {a : Addr} {xs : List V} : Walks (Itt K a) (fun H => SqT K H a xs) xs.length (fun i x => xs[i]? = some x) :=
  ⟨fun _ _ g h => ⟨xs, g, h⟩, fun i _ g h => ⟨xs, xs[i], g, List.getElem?_eq_getElem h⟩, fun _ _ _ _ g y => ⟨y.1, y.2 xs g⟩⟩
theorem walks_str {z : Str} : Walks (Its z) (fun _ => True) z.cps.size (fun i x => ∃ c, z.cps[i]? = some c ∧ x = .str ⟨#[c]⟩) := ⟨fun _ _ _ h => h, fun _ _ _ h => h, fun _ _ _ _ _ y => y⟩
theorem walks_keys {d : Addr} {o : Obj} {kvs : List (Key × V)} : Walks (Itk d o kvs) (fun H => H d = some (.frz o (.dK kvs))) kvs.length (fun i x => ∃ k v, kvs[i]? = some (k, v) ∧ x = kV k) :=
  ⟨fun _ _ g h => ⟨g, h⟩, fun _ _ g h => ⟨g, h⟩, fun _ _ _ _ _ y => y⟩
/-! ### for -/
def ForQ (J : It) (g : TG) (tb : TS) (D : Ends) (σ : L2.St) (H : Hp) : Prop := ∃ W : Nat → Nat → L2.St → Hp → Prop, (∃ m, W 0 m σ H) ∧ ∀ i m σ H, W i m σ H →
  (J.stop i H ∧ D.nx σ H) ∨ (J.go i H ∧ ∃ N : L2.St → Hp → Prop, (∀ σ' H', N σ' H' → ∃ m', m' < m ∧ W (i + 1) m' σ' H') ∧ ∀ x H', J.yld i H x H' → g x σ H' fun σ2 H2 => tb { D with nx := N, ct := N, bk := D.nx } σ2 H2)
def RngQ (R : It → Hp → Prop) (vs : List V) (H : Hp) : Prop := ∃ j : Int, vs = [.int j] ∧ -(2 ^ 62) ≤ j ∧ j < 2 ^ 62 ∧ R (Itr 0 j.toNat) H
def Rng2Q (R : It → Hp → Prop) (vs : List V) (H : Hp) : Prop := ∃ i j : Int, vs = [.int i, .int j] ∧ (-(2 ^ 62) ≤ i ∧ i < 2 ^ 62 ∧ -(2 ^ 62) ≤ j ∧ j < 2 ^ 62) ∧ R (Itr i (j - i).toNat) H
def LisQ (K : PySem.W.Frag) (R : It → Hp → Prop) (x : V) (H : Hp) : Prop := ∃ a, x = .ref a ∧ (∃ xs, SqL K H a xs) ∧ R (Itl K a) H
def TupQ (K : PySem.W.Frag) (R : It → Hp → Prop) (x : V) (H : Hp) : Prop := ∃ a, x = .ref a ∧ (∃ xs, SqT K H a xs) ∧ R (Itt K a) H
def StrQ (R : It → Hp → Prop) (x : V) (H : Hp) : Prop := ∃ z, x = .str z ∧ R (Its z) H
def KeyQ (R : It → Hp → Prop) (x : V) (H : Hp) : Prop := ∃ d o, x = .ref d ∧ ((∃ kvs, H d = some (.frz o (.dK kvs)) ∧ R (Itk d o kvs) H) ∨ ∃ kvs, H d = some (.frz o (.dT kvs)) ∧ R (Itkt d o kvs) H)
section
variable {K : PySem.W.Frag} {σ : L2.St} {H : Hp} {D : Ends} {ta : TA} {te tl : TE} {wi : TI} {g : TG} {tb : TS} {R : It → Hp → Prop} {xs : List V} {a : Addr}
theorem ts_for (k : wi σ H fun J H1 => ForQ J g tb D σ H1) : tFor wi g tb D σ H := k
theorem ti_rng (k : ta σ H fun vs H1 => RngQ R vs H1) : iRng1 ta σ H R := k
theorem ti_rng2 (k : ta σ H fun vs H1 => Rng2Q R vs H1) : iRng2 ta σ H R := k
theorem ti_lst (k : tl σ H fun x H1 => LisQ K R x H1) : iList K tl σ H R := k
theorem ti_tup (k : tl σ H fun x H1 => TupQ K R x H1) : iTup K tl σ H R := k
theorem ti_str (k : te σ H fun x H1 => StrQ R x H1) : iStr te σ H R := k
theorem ti_key (k : te σ H fun x H1 => KeyQ R x H1) : iKeys te σ H R := k
theorem rngq {j : Int} (h : -(2 ^ 62) ≤ j ∧ j < 2 ^ 62) (k : R (Itr 0 j.toNat) H) : RngQ R [.int j] H := ⟨j, rfl, h.1, h.2, k⟩
theorem rng2q {i j : Int} (h : -(2 ^ 62) ≤ i ∧ i < 2 ^ 62 ∧ -(2 ^ 62) ≤ j ∧ j < 2 ^ 62) (k : R (Itr i (j - i).toNat) H) : Rng2Q R [.int i, .int j] H := ⟨i, j, rfl, h, k⟩
theorem lisq (h : SqL K H a xs) (k : R (Itl K a) H) : LisQ K R (.ref a) H := ⟨a, rfl, ⟨xs, h⟩, k⟩
theorem tupq (h : SqT K H a xs) (k : R (Itt K a) H) : TupQ K R (.ref a) H := ⟨a, rfl, ⟨xs, h⟩, k⟩
theorem strq {z : Str} (k : R (Its z) H) : StrQ R (.str z) H := ⟨z, rfl, k⟩
theorem keyq {o : Obj} {kvs : List (Key × V)} (h : H a = some (.frz o (.dK kvs))) (k : R (Itk a o kvs) H) : KeyQ R (.ref a) H := ⟨a, o, rfl, .inl ⟨kvs, h, k⟩⟩
theorem forq {J : It} {G : Hp → Prop} {n : Nat} {it : Nat → V → Prop} (w : Walks J G n it) (Pv : Nat → L2.St → Hp → Prop) (h0 : Pv 0 σ H) (hG : ∀ i σ H, Pv i σ H → G H)
    (hs : ∀ i x σ H, i < n → it i x → Pv i σ H → g x σ H fun σ2 H2 => tb ⟨Pv (i + 1), D.rt, D.nx, Pv (i + 1)⟩ σ2 H2) (hd : ∀ σ H, Pv n σ H → D.nx σ H) : ForQ J g tb D σ H := by
  refine ⟨fun i m σ H => m = n - i ∧ i ≤ n ∧ Pv i σ H, ⟨n, by simp, Nat.zero_le _, h0⟩, ?_⟩
  rintro i m σ H ⟨rfl, hi, p⟩
  by_cases c : i < n
  · refine .inr ⟨w.go i H (hG _ _ _ p) c, Pv (i + 1), fun σ' H' p' => ⟨n - (i + 1), by omega, rfl, c, p'⟩, fun x H' y => ?_⟩
    obtain ⟨e, q⟩ := w.yld i H x H' (hG _ _ _ p) y
    rw [e]
    exact hs i x σ H c q p
  · obtain rfl : i = n := Nat.le_antisymm hi (Nat.le_of_not_lt c)
    exact .inl ⟨w.stop _ H (hG _ _ _ p) (Nat.le_refl _), hd σ H p⟩
end
/-! ### list comprehensions with one name -/
def LcQ (J : It) (g : TG) (tt : TT) (te : TE) (vs : List Nat) (σ : L2.St) (Q : VK) (H1 : Hp) : Prop := ∀ D, H1 D = none → ∃ W : Nat → Nat → Hp → Prop, (∃ m, W 0 m (upd H1 D (.lst []))) ∧ ∀ i m H, W i m H →
  (J.stop i H ∧ Q (.ref D) H) ∨ (J.go i H ∧ ∃ Nx : Hp → Prop, (∀ H', Nx H' → ∃ m', m' < m ∧ W (i + 1) m' H') ∧ ∀ x H', J.yld i H x H' → g x (wipe σ vs) H' fun σ2 H2 => wipe σ2 vs = wipe σ vs ∧ tt σ2 H2 fun b H3 =>
    if b = true then te σ2 H3 fun y H4 => ∃ acc, H4 D = some (.lst acc) ∧ acc.length < sizeLine ∧ Nx (upd H4 D (.lst (acc ++ [y]))) else Nx H3)
theorem te_lc {wi : TI} {g : TG} {tt : TT} {te : TE} {vs : List Nat} {σ : L2.St} {H : Hp} {Q : VK} (k : wi σ H fun J H1 => LcQ J g tt te vs σ Q H1) : tLc wi g tt te vs σ H Q := k
theorem wipe1 {σ : L2.St} {j : Nat} {x : Option V} : wipe ((wipe σ [j]).set j x) [j] = wipe σ [j] := by simp [wipe, List.set_set]
def NxQ (D : Addr) (i : Nat) (Pv : Nat → List V → Hp → Prop) (H : Hp) : Prop := ∃ ys, ys.length ≤ i + 1 ∧ H D = some (.lst ys) ∧ Pv (i + 1) ys H
def ItemQ (D : Addr) (i : Nat) (Pv : Nat → List V → Hp → Prop) (y : V) (H : Hp) : Prop := ∃ acc, H D = some (.lst acc) ∧ acc.length < sizeLine ∧ NxQ D i Pv (upd H D (.lst (acc ++ [y])))
section
variable {D : Addr} {i : Nat} {Pv : Nat → List V → Hp → Prop} {y : V} {H : Hp} {ys : List V}
theorem itemq (h : H D = some (.lst ys)) (hl : ys.length ≤ i) (hi : i < 100000) (k : ∀ H5, Ch [D] H H5 → H5 D = some (.lst (ys ++ [y])) → Pv (i + 1) (ys ++ [y]) H5) : ItemQ D i Pv y H :=
  ⟨ys, h, Nat.lt_of_le_of_lt hl (Nat.lt_of_lt_of_le hi (by decide)), ys ++ [y], by simp [hl], upd_same, k _ (Ch.set Ch.refl (List.mem_singleton.mpr rfl) h rfl) upd_same⟩
theorem nxq (h : H D = some (.lst ys)) (hl : ys.length ≤ i) (k : Pv (i + 1) ys H) : NxQ D i Pv H := ⟨ys, Nat.le_succ_of_le hl, h, k⟩
end
theorem lcq {J : It} {G : Hp → Prop} {n j : Nat} {it : Nat → V → Prop} {tt : TT} {te : TE} {σ : L2.St} {Q : VK} {H1 : Hp} (w : Walks J G n it) (Pv : Addr → Nat → List V → Hp → Prop)
    (h0 : ∀ D H2, H1 D = none → Ch [] H1 H2 → H2 D = some (.lst []) → Pv D 0 [] H2) (hG : ∀ D i ys H, Pv D i ys H → G H)
    (hs : ∀ D i x ys H, H1 D = none → i < n → it i x → Pv D i ys H → H D = some (.lst ys) → ys.length ≤ i → tt ((wipe σ [j]).set j (some x)) H fun b H3 =>
      if b = true then te ((wipe σ [j]).set j (some x)) H3 (ItemQ D i (Pv D)) else NxQ D i (Pv D) H3)
    (hd : ∀ D ys H, H1 D = none → Pv D n ys H → H D = some (.lst ys) → ys.length ≤ n → Q (.ref D) H) : LcQ J (gName j) tt te [j] σ Q H1 := by
  intro D hD
  refine ⟨fun i m H => m = n - i ∧ i ≤ n ∧ ∃ ys, ys.length ≤ i ∧ H D = some (.lst ys) ∧ Pv D i ys H, ⟨n, by simp, Nat.zero_le _, [], Nat.le_refl _, upd_same, h0 D _ hD (Ch.new hD) upd_same⟩, ?_⟩
  rintro i m H ⟨rfl, hi, ys, hl, e, p⟩
  by_cases c : i < n
  · refine .inr ⟨w.go i H (hG _ _ _ _ p) c, NxQ D i (Pv D), fun H' ⟨ys', p'⟩ => ⟨n - (i + 1), by omega, rfl, c, ys', p'⟩, fun x H' y => ?_⟩
    obtain ⟨e', q⟩ := w.yld i H x H' (hG _ _ _ _ p) y
    rw [e']
    exact ⟨wipe1, hs D i x ys H hD c q p e hl⟩
  · obtain rfl : i = n := Nat.le_antisymm hi (Nat.le_of_not_lt c)
    exact .inl ⟨w.stop _ H (hG _ _ _ _ p) (Nat.le_refl _), hd D ys H hD p e hl⟩
theorem tt_yes {σ : L2.St} {H : Hp} {Q : Bool → Hp → Prop} (k : Q true H) : tYes σ H Q := k
/-! ### dict comprehensions with one name -/
def DcQ (J : It) (g : TG) (tt : TT) (tk tv : TE) (vs : List Nat) (σ : L2.St) (Q : VK) (H1 : Hp) : Prop := ∀ D, H1 D = none → ∃ W : Nat → Nat → Hp → Prop, (∃ m, W 0 m (upd H1 D (.dK []))) ∧ ∀ i m H, W i m H →
  (J.stop i H ∧ Q (.ref D) H) ∨ (J.go i H ∧ ∃ Nx : Hp → Prop, (∀ H', Nx H' → ∃ m', m' < m ∧ W (i + 1) m' H') ∧ ∀ x H', J.yld i H x H' → g x (wipe σ vs) H' fun σ2 H2 => wipe σ2 vs = wipe σ vs ∧ tt σ2 H2 fun b H3 =>
    if b = true then tk σ2 H3 fun y H4 => tv σ2 H4 fun z H5 => ∃ kvs k, y = kV k ∧ H5 D = some (.dK kvs) ∧ kvs.length < sizeLine ∧ Nx (upd H5 D (.dK (putK kvs k z))) else Nx H3)
theorem te_dc {wi : TI} {g : TG} {tt : TT} {tk tv : TE} {vs : List Nat} {σ : L2.St} {H : Hp} {Q : VK} (k : wi σ H fun J H1 => DcQ J g tt tk tv vs σ Q H1) : tDc wi g tt tk tv vs σ H Q := k
def NxD (D : Addr) (i : Nat) (Pv : Nat → List (Key × V) → Hp → Prop) (H : Hp) : Prop := ∃ ys, ys.length ≤ i + 1 ∧ H D = some (.dK ys) ∧ Pv (i + 1) ys H
def PairQ (D : Addr) (i : Nat) (Pv : Nat → List (Key × V) → Hp → Prop) (y z : V) (H : Hp) : Prop := ∃ kvs k, y = kV k ∧ H D = some (.dK kvs) ∧ kvs.length < sizeLine ∧ NxD D i Pv (upd H D (.dK (putK kvs k z)))
theorem putK_le {κ : Type} [DecidableEq κ] (kvs : List (κ × V)) (k : κ) (v : V) : (putK kvs k v).length ≤ kvs.length + 1 := by
  unfold putK
  split <;> simp
section
variable {D : Addr} {i : Nat} {Pv : Nat → List (Key × V) → Hp → Prop} {z : V} {k : Key} {H : Hp} {ys : List (Key × V)}
theorem pairq (h : H D = some (.dK ys)) (hl : ys.length ≤ i) (hi : i < 100000) (q : ∀ H5, Ch [D] H H5 → H5 D = some (.dK (putK ys k z)) → Pv (i + 1) (putK ys k z) H5) : PairQ D i Pv (kV k) z H :=
  ⟨ys, k, rfl, h, Nat.lt_of_le_of_lt hl (Nat.lt_of_lt_of_le hi (by decide)), _, Nat.le_trans (putK_le ys k z) (Nat.succ_le_succ hl), upd_same, q _ (Ch.set Ch.refl (List.mem_singleton.mpr rfl) h rfl) upd_same⟩
theorem nxd (h : H D = some (.dK ys)) (hl : ys.length ≤ i) (k : Pv (i + 1) ys H) : NxD D i Pv H := ⟨ys, Nat.le_succ_of_le hl, h, k⟩
end
theorem dcq {J : It} {G : Hp → Prop} {n j : Nat} {it : Nat → V → Prop} {tt : TT} {tk tv : TE} {σ : L2.St} {Q : VK} {H1 : Hp} (w : Walks J G n it) (Pv : Addr → Nat → List (Key × V) → Hp → Prop)
    (h0 : ∀ D H2, H1 D = none → Ch [] H1 H2 → H2 D = some (.dK []) → Pv D 0 [] H2) (hG : ∀ D i ys H, Pv D i ys H → G H)
    (hs : ∀ D i x ys H, H1 D = none → i < n → it i x → Pv D i ys H → H D = some (.dK ys) → ys.length ≤ i → tt ((wipe σ [j]).set j (some x)) H fun b H3 =>
      if b = true then tk ((wipe σ [j]).set j (some x)) H3 fun y H4 => tv ((wipe σ [j]).set j (some x)) H4 fun z H5 => PairQ D i (Pv D) y z H5 else NxD D i (Pv D) H3)
    (hd : ∀ D ys H, H1 D = none → Pv D n ys H → H D = some (.dK ys) → ys.length ≤ n → Q (.ref D) H) : DcQ J (gName j) tt tk tv [j] σ Q H1 := by
  intro D hD
  refine ⟨fun i m H => m = n - i ∧ i ≤ n ∧ ∃ ys, ys.length ≤ i ∧ H D = some (.dK ys) ∧ Pv D i ys H, ⟨n, by simp, Nat.zero_le _, [], Nat.le_refl _, upd_same, h0 D _ hD (Ch.new hD) upd_same⟩, ?_⟩
  rintro i m H ⟨rfl, hi, ys, hl, e, p⟩
  by_cases c : i < n
  · refine .inr ⟨w.go i H (hG _ _ _ _ p) c, NxD D i (Pv D), fun H' ⟨ys', p'⟩ => ⟨n - (i + 1), by omega, rfl, c, ys', p'⟩, fun x H' y => ?_⟩
    obtain ⟨e', q⟩ := w.yld i H x H' (hG _ _ _ _ p) y
    rw [e']
    exact ⟨wipe1, hs D i x ys H hD c q p e hl⟩
  · obtain rfl : i = n := Nat.le_antisymm hi (Nat.le_of_not_lt c)
    exact .inl ⟨w.stop _ H (hG _ _ _ _ p) (Nat.le_refl _), hd D ys H hD p e hl⟩
/-! ### a dict that is locked while it is walked -/
section
variable {M : List Addr} {H H' : Hp} {d : Addr} {o : Obj} {kvs : List (Key × V)} {σ : L2.St} {D : Ends} {t : TS} {te : TE} {Q : VK}
theorem Ch.lock (h : H d = some (.dK kvs)) : Ch [d] H (upd H d (.frz o (.dK kvs))) := Ch.set Ch.refl (List.mem_singleton.mpr rfl) h rfl
/-- what was done while d was locked, seen from before and behind -/
theorem Ch.unlock (h : H d = some (.dK kvs)) (c : Ch M (upd H d (.frz o (.dK kvs))) H') : Ch M H (upd H' d (.dK kvs)) := ⟨fun a u e n => by
  by_cases q : a = d
  · rw [q]; rw [q, h] at e; rw [← Option.some.inj e]; exact upd_same
  · rw [upd_ne q]; exact c.keep a u (by rw [upd_ne q]; exact e) n, fun a e => by
  by_cases q : a = d
  · rw [q, upd_same] at e; cases e
  · rw [upd_ne q] at e
    have z := c.dom a e
    rwa [upd_ne q] at z⟩
/-- the wish behind: the dict as it was -/
theorem ts_lock (h : H d = some (.dK kvs)) (k : ∀ od, t ⟨fun σ' H' => H' d = some (.frz od (.dK kvs)) ∧ D.nx σ' (upd H' d (.dK kvs)), fun v H' => H' d = some (.frz od (.dK kvs)) ∧ D.rt v (upd H' d (.dK kvs)), fun σ' H' => H' d = some (.frz od (.dK kvs)) ∧ D.bk σ' (upd H' d (.dK kvs)), fun σ' H' => H' d = some (.frz od (.dK kvs)) ∧ D.ct σ' (upd H' d (.dK kvs))⟩ σ (upd H d (.frz od (.dK kvs)))) : tLock t D σ H :=
  ⟨d, _, h, trivial, k⟩
theorem te_lock (h : H d = some (.dK kvs)) (k : ∀ od, te σ (upd H d (.frz od (.dK kvs))) fun v H' => H' d = some (.frz od (.dK kvs)) ∧ Q v (upd H' d (.dK kvs))) : tLockE te σ H Q := ⟨d, _, h, trivial, k⟩
end
/-! Facts of the head by any tests of the written part; a def's promise by its body; rules of constants. -/
/-- a def that stands at an address found by ad -/
structure DX where
  ad : PySem.W.Frag → Addr
  name : Str
  qual : Str
  st : Stmt
  dfl : List He.Dv := []
  kwd : List (Str × He.Dv) := []
def DX.dvs (K : PySem.W.Frag) (d : DX) : List V := d.dfl.map (He.Dv.v K)
def DX.kws (K : PySem.W.Frag) (d : DX) : List (Str × V) := d.kwd.map fun q => (q.1, q.2.v K)
def wrA (K : PySem.W.Frag) (a : Addr) : He.FnW := (K.lookup a).bind fun o => match o.data with
  | .func fd => some (fd.name, fd.qualname, fd.params, fd.body, fd.scope, fd.globals, fd.closure, fd.builtins)
  | _ => none
def DX.says (d : DX) : He.FnW := some (d.name, d.qual, defArgs d.st, .stmts (defBody d.st), defScope d.st, mainGlobals, [], builtinsNs)
def DX.okB (K : PySem.W.Frag) (d : DX) : Bool := PySem.W.keepIn K (.ref (d.ad K)) && ((K.lookup (d.ad K)).any fun o => match o.data with
  | .func fd => PySem.W.codeIn K fd.code d.qual && (He.dflB K fd.defaults (d.dvs K) && He.kwdB K fd.kwdefaults (d.kws K))
  | _ => false)
theorem DX.got {K : PySem.W.Frag} {d : DX} (e : wrA K (d.ad K) = d.says) (c : d.okB K = true) : ∃ fd, FunD K d.name d.qual (defArgs d.st) (defBody d.st) (defScope d.st) (d.dvs K) (d.kws K) (d.ad K) fd := by
  obtain ⟨kp, c2⟩ := Bool.and_eq_true_iff.mp c
  obtain ⟨o, lk, c3⟩ : ∃ o, K.lookup (d.ad K) = some o ∧ (match o.data with
      | .func fd => PySem.W.codeIn K fd.code d.qual && (He.dflB K fd.defaults (d.dvs K) && He.kwdB K fd.kwdefaults (d.kws K))
      | _ => false) = true := by
    cases q : K.lookup (d.ad K) with
    | none => rw [q] at c2; cases c2
    | some o => rw [q] at c2; exact ⟨o, rfl, c2⟩
  unfold wrA at e
  rw [lk] at e
  obtain ⟨oc, od, dt, osl⟩ := o
  cases dt with
  | func fd =>
    obtain ⟨u1, u2, u3, u4, u5, u6, u7, u8, u9, u10, u11, u12, u13, u14, u15⟩ := fd
    have e2 : (some (u1, u2, u3, u4, u5, u6, u7, u15) : He.FnW) = some (d.name, d.qual, defArgs d.st, .stmts (defBody d.st), defScope d.st, mainGlobals, [], builtinsNs) := e
    injection e2 with e2
    obtain ⟨rfl, rfl, rfl, rfl, rfl, rfl, rfl, rfl⟩ := (by simpa only [Prod.mk.injEq] using e2 : u1 = _ ∧ u2 = _ ∧ u3 = _ ∧ u4 = _ ∧ u5 = _ ∧ u6 = _ ∧ u7 = _ ∧ u15 = _)
    have c4 : (PySem.W.codeIn K u13 d.qual && (He.dflB K u8 (d.dvs K) && He.kwdB K u9 (d.kws K))) = true := c3
    simp only [Bool.and_eq_true] at c4
    exact ⟨_, ⟨oc, od, u8, u9, u10, u11, u12, u13, u14, osl, rfl, lk, c4.1, He.dflB_ok c4.2.1, He.kwdB_ok c4.2.2⟩, kp⟩
  | _ => cases e
def obsX (fx : List (PySem.W.Frag → Bool)) (fn : List DX) (K : PySem.W.Frag) : He.AlD := ((fx.all fun f => f K) && fn.all fun d => d.okB K, fn.map fun d => wrA K (d.ad K))
def valX (fn : List DX) : He.AlD := (true, fn.map DX.says)
def SaysX (fx : List (PySem.W.Frag → Bool)) (fn : List DX) (K : PySem.W.Frag) : Prop := obsX fx fn K = valX fn
def seeX (n : Nat) (fx : List (PySem.W.Frag → Bool)) (fn : List DX) (g : Addr → Option Obj) : He.AlD := obsX fx fn (He.frG g (He.asD g n))
def hookX (n : Nat) (fx : List (PySem.W.Frag → Bool)) (fn : List DX) : PySem.W.Hook where
  α := He.AlD
  obs := fun s => seeX n fx fn s.heap.get?
  val := fun _ => valX fn
  says := fun _ h => ∃ K : PySem.W.Frag, K.In h ∧ SaysX fx fn K
  of := fun _ _ e => ⟨_, He.frG_in, e⟩
  keeps := fun _ _ _ ⟨K, hK, c⟩ k => ⟨K, PySem.W.Frag.In.keeps hK k, c⟩
theorem seeX_eq {n : Nat} {fx : List (PySem.W.Frag → Bool)} {fn : List DX} {g : Addr → Option Obj} {s : Shared} (h : ∀ a, g a = s.heap.get? a) : seeX n fx fn g = (hookX n fx fn).obs s := by
  show seeX n fx fn g = seeX n fx fn s.heap.get?
  rw [show g = s.heap.get? from funext h]
structure TF (fx : List (PySem.W.Frag → Bool)) (fn : List DX) (K : PySem.W.Frag) (mg : Str → Option Value) : Prop where
  ex : ∃ h : Heap, K.In h ∧ h.Ns mainGlobals mg
  says : SaysX fx fn K
section
variable {fx : List (PySem.W.Frag → Bool)} {fn : List DX} {K : PySem.W.Frag} {mg : Str → Option Value}
theorem TF.both (T : TF fx fn K mg) : (fx.all fun f => f K) = true ∧ (fn.all fun d => d.okB K) = true := Bool.and_eq_true_iff.mp (show ((fx.all fun f => f K) && fn.all fun d => d.okB K) = true from congrArg Prod.fst T.says)
theorem TF.fact (T : TF fx fn K mg) (i : Nat) {f : PySem.W.Frag → Bool} (h : fx[i]? = some f) : f K = true := List.all_eq_true.mp T.both.1 f (List.mem_of_getElem? h)
theorem TF.fun_ (T : TF fx fn K mg) (i : Nat) {d : DX} (h : fn[i]? = some d) : ∃ fd, FunD K d.name d.qual (defArgs d.st) (defBody d.st) (defScope d.st) (d.dvs K) (d.kws K) (d.ad K) fd := by
  have e : fn.map (fun d => wrA K (d.ad K)) = fn.map DX.says := congrArg Prod.snd T.says
  have e2 := congrArg (fun l => l[i]?) e
  simp only [List.getElem?_map, h, Option.map_some, Option.some.injEq] at e2
  exact DX.got e2 (List.all_eq_true.mp T.both.2 d (List.mem_of_getElem? h))
theorem TF.glo (T : TF fx fn K mg) {x : Str} (c : (He.Fa.glo x).ok K = true) : mg x = some (.ref (He.ga K x)) := by
  obtain ⟨h, X, G⟩ := T.ex
  exact He.glo_ok X G c
theorem TF.free (T : TF fx fn K mg) {x : Str} (c : (He.Fa.free x).ok K = true) : mg x = none := by
  obtain ⟨h, X, G⟩ := T.ex
  exact He.free_ok X G c
theorem TF.int (T : TF fx fn K mg) {x : Str} {i : Int} (c : (He.Fa.int x i).ok K = true) : ∃ t, mg x = some (.int i t) := by
  obtain ⟨h, X, G⟩ := T.ex
  exact He.int_ok X G c
theorem TF.str (T : TF fx fn K mg) {x z : Str} (c : (He.Fa.str x z).ok K = true) : ∃ t, mg x = some (.str z t) := by
  obtain ⟨h, X, G⟩ := T.ex
  exact He.str_ok X G c
end
section
variable {X : Cx} {x z : Str} {i : Int} {a : Addr} {pos : Pos}
theorem pe_gi (h : ∃ t, X.mg x = some (.int i t)) (hg : Gl X x := by rfl) (hd : (x == ("__debug__" : Str)) = false := by decide) : PE X (.Name x pos) (tC (.int i)) := by
  obtain ⟨t, e⟩ := h
  exact pe_glob hg e ⟨t, rfl⟩ hd
theorem pe_gs (h : ∃ t, X.mg x = some (.str z t)) (hg : Gl X x := by rfl) (hd : (x == ("__debug__" : Str)) = false := by decide) : PE X (.Name x pos) (tC (.str z)) := by
  obtain ⟨t, e⟩ := h
  exact pe_glob hg e ⟨t, rfl⟩ hd
theorem pe_gr (h : X.mg x = some (.ref a)) (hg : Gl X x := by rfl) (hd : (x == ("__debug__" : Str)) = false := by decide) : PE X (.Name x pos) (tC (.ref a)) := pe_glob hg h rfl hd
end
/-- a def keeps its promise -/
theorem mkO {P : Program} {w : World} {K : PySem.W.Frag} {mg : Str → Option Value} {base : Heap} {x qual : Str} {params : Arguments} {body : List Stmt} {scope : Scope} {f : Addr} {CX : CXT} {N ps : List Str} {k : Nat} {sp : Sp}
    (F : ∃ fd, FunD K x qual params body scope [] [] f fd) (S : FnScope N ps scope)
    (hb : ∀ (kV doc pm : Value) (an : Option Addr) (cdv ct : Value) (us : List Value), us.length = ps.length → bindArgs (PySem.W.fnOf x qual params body scope .none kV doc pm an cdv ct) ⟨us, []⟩ = pure (ps.zip us))
    (len : ∀ vs H Q E, sp vs H Q E → vs.length = ps.length)
    (hbody : ∀ (cdv : Value) (A : Around) (outer : List Env) (s : Shared) (H : Hp) (vs : List V) (Q : VK) (E : XK), Room k (A.deeper (envOfC qual scope s.heap.objs.size f cdv)) → sp vs H Q E →
      ∃ t, PSs (cxOf CX P w K mg base N qual scope f cdv A outer s H E) body t ∧ t { nx := fun _ H' => Q .non H', rt := Q } (start N vs) H) : ∃ fd, FnOk P w K mg base CX (k + 1) f fd ps sp ∧ Binds K fd ps [] := by
  obtain ⟨fd, F⟩ := F
  exact ⟨fd, FunD.ok F S len hbody, F.bindsN hb⟩
theorem FnOk.toR {P : Program} {w : World} {K : PySem.W.Frag} {mg : Str → Option Value} {base : Heap} {f : Addr} {CX : CXT} {ps : List Str} {k : Nat} {sp : Sp} (F : ∃ fd, FnOk P w K mg base CX k f fd ps sp ∧ Binds K fd ps []) : FnR P w K mg base CX k f sp := by
  obtain ⟨fd, F, b⟩ := F
  refine (F.raw b .nil).imp fun vs H Q E h => ?_
  rw [List.append_nil]
  exact h
/-! Names for readings that kgen.py prints; exceptions whose context is known, made by an own __init__. -/
abbrev rSub : R2 := rI0 fun i j => .int (i - j)
abbrev rFdiv : R2 := rI CDivN fun i j => .int (i.fdiv j)
abbrev rMod : R2 := rI (fun _ j => j ≠ 0) fun i j => .int (i.fmod j)
abbrev rPow : R2 := rI CPow fun i j => .int (i ^ j.toNat)
abbrev rLt : R2 := rI0 fun i j => .bl (decide (i < j))
abbrev rLe : R2 := rI0 fun i j => .bl (decide (i ≤ j))
abbrev rGt : R2 := rI0 fun i j => .bl (decide (j < i))
abbrev rGe : R2 := rI0 fun i j => .bl (decide (j ≤ i))
def rIsNo : R2 := fun x y H Q => y = .non ∧ Q (.bl (decide (x = .non))) H
def rNotNo : R2 := fun x y H Q => y = .non ∧ Q (.bl (!decide (x = .non))) H
def rStrI : List V → Hp → VK → Prop := fun xs H Q => ∃ i, xs = [.int i] ∧ i.natAbs.log2 < 1920 ∧ Q (.str (toString i)) H
def rJoin (K : PySem.W.Frag) : V → List V → Hp → VK → Prop := fun x xs H Q => ∃ a p, ∃ ys : List Str, x = .str a ∧ xs = [.ref p] ∧ (SqL K H p (ys.map V.str) ∨ SqT K H p (ys.map V.str)) ∧ (ys.map (·.length)).sum + ys.length * a.length ≤ 16777216 ∧ Q (.str (Txt.join a ys)) H
def tJoin (K : PySem.W.Frag) (to te : TE) : TE := tM1 (rJoin K) to te
section
variable {X : Cx} {W : WX}
theorem passN : Passes (L2N.CX X.prog X.w) X E0 := fun _ _ _ _ _ _ _ ⟨_, _, _, _, _, _, _, _, _, _, _, _, z⟩ => z.elim
theorem zn_zc {l : List Env} {a L : Addr} {cls : Value} {d : Option Addr} {B h : Heap} (x : Sky B l a (L2N.Zn cls d) L h) : Sky B l a (Zc cls d) L h := by
  rcases x with ⟨h1, h2, h3, oe, vs, h4, h5, h6⟩ | x | x
  · exact .inl ⟨h1, h2, h3, oe, vs, h4, h5.zc, h6⟩
  · exact .inr (.inl (L2H.flyingZ_imp (fun _ z => z.zc) x))
  · exact .inr (.inr ⟨x.1, x.2.1, x.2.2.1, L2H.tracedZ_imp (fun _ z => z.zc) x.2.2.2⟩)
theorem takesN (t : L2.Takes X W) : L2N.Takes X W := fun u s' ⟨a, B, sI, pins, σ, H, cls, d, e, I, nb, up, sky, z⟩ => t u s' ⟨a, B, sI, pins, σ, H, cls, d, e, I, nb, up, zn_zc sky, z⟩
end
/-- a promise that tells the context is one that does not -/
theorem FnR.ofN {P : Program} {w : World} {K : PySem.W.Frag} {mg : Str → Option Value} {base : Heap} {k : Nat} {f : Addr} {sp : Sp} (F : FnR P w K mg base (L2N.CX P w) k f sp) : FnR P w K mg base (L2.CX P w) k f sp := fun A outer s H us vs Q E hr e0 r h =>
  codeAny_mono (F A outer s H us vs Q E hr e0 r h) fun r s' hq => by
    match r, hq with
    | .ok (.ret _), hq => exact hq
    | .ok .next, hq => exact hq
    | .ok .brk, hq => exact hq
    | .ok .cont, hq => exact hq
    | .error _, ⟨a, B, H', cls, d, e, fl, z⟩ => exact ⟨a, B, H', cls, d, e, L2H.flyingZ_imp (fun _ z => z.zc) fl, z⟩
/-- raise C(..) with an own __init__ | without -/
def tRaiseI (sp : Sp) (C : Addr) (E : XK) (t : TA) : TS := fun _ σ H => tMkO C sp [] t σ H fun cls d H' => E cls d H'
def tRaiseO (C : Addr) (E : XK) : TS := fun _ _ H => E (.ref C) none H
section
variable {X : Cx} {CX : CXT} {x : Str} {C fI : Addr} {k : Nat} {sp : Sp} {p pos : Pos} {e : Expr} {es : List Expr} {ta : TA}
theorem pmk_oexN (T : OexC X.K C) (iC : PySem.W.findIn X.K (.ref C) "__init__" = some (some (.ref fI))) (tI : PySem.W.typeIn X.K (.ref fI) = some (.type "function")) (F : FnR X.prog X.w X.K X.mg X.base CX0 k fI sp) (hr : Room (k + 1) X.A)
    (hg : Gl X x) (hm : X.mg x = some (.ref C)) (ha : PA X (e :: es) ta)
    (hdb : (x == ("__debug__" : Str)) = false := by decide) (he : starEach (e :: es) X.env = (false, eval e X.env) :: starEach es X.env := by rfl) (hpl : (backTo pos (starEach es X.env)).any (·.1) = false := by rfl) :
    L2N.PMk X (.Call (.Name x p) (e :: es) [] pos) (tMkO C sp [] ta) := fun pins s σ H Q I h => by
  obtain ⟨n1, n2, n3, n4, bm, n5, n6, n7, n8, n9, j0, j1, j2, j3, j5, hC, hbm⟩ := T.cls
  refine wpAny_Call_Name_kw (ld_glob I hg hm (PySem.W.callWith_K (h₀ := X.base) I.ok.mod.kin T.kC (thn (ha.run pos pins s σ H _ I h) fun us s1 ⟨vs, H1, J, r1, hz, q1⟩ => ⟨J.kIn, ?_⟩) he hpl) hdb)
  obtain ⟨hp, g, dr, tk, os⟩ := s1
  let b : Addr := hp.objs.size + 1
  let hp2 : Heap := (hp.push (PySem.W.kdv_tup us)).push (PySem.HandSPX.excO C hp.objs.size)
  have big : hp.objs.size ≤ b := Nat.le_succ _
  have keep : ∀ c o, hp.get? c = some o → hp2.get? c = some o := fun c o z => Heap.get?_push_of_some _ (Heap.get?_push_of_some _ z)
  have there : hp2.get? b = some (PySem.HandSPX.excO C hp.objs.size) := by
    show ((hp.push (PySem.W.kdv_tup us)).push (PySem.HandSPX.excO C hp.objs.size)).get? (hp.objs.size + 1) = some (PySem.HandSPX.excO C hp.objs.size)
    heap_get
  have J2 : Inv X pins σ (upd H1 b (exo b C none)) ⟨hp2, g, dr, tk, os⟩ := J.laid (t' := tk) keep big (exo_ok there)
  have small : us.length ≤ sizeLine := by
    rw [← Paired.length r1]
    exact Nat.le_trans hz (by decide)
  have hq := q1 b (J.hok.fresh big)
  rw [List.append_nil] at hq
  refine wpAny_call (PySem.HandSPX.call_own PySem.F.excBase_ValueError (fun Y => PySem.HandSPX.refsVE_contains Y bm hbm) (J.kIn _ _ hC) (PySem.W.looks_findIn J.kIn iC) (fun self => PySem.W.bind_fn J.kIn self tI) small
    (codeAny_mono (F _ X.stack _ _ (Value.ref b :: us) (V.ref b :: vs) _ (fun _ _ _ => False) (hr.make C us []) (J2.env0.make C us []) (.cons rfl r1) hq) fun r s' hq' => ?_))
  match r, hq' with
  | .error _, hq' => exact hq'.elim
  | .ok .next, hq' => exact hq'.elim
  | .ok .brk, hq' => exact hq'.elim
  | .ok .cont, hq' => exact hq'.elim
  | .ok (.ret u), ⟨v, H2, os2, bare2, un2, hok2, rv, ev, d, fs, ea, ed, hd1, q2⟩ =>
    subst ev
    obtain ⟨h2, g2, d2, t2, os'⟩ := s'
    obtain ⟨t0, G, J3, kG, ge, hoe, na⟩ := mk_end0 (d2 := d2) (t2 := t2) J big keep un2 hok2 os2 bare2 ea ed hd1
    refine ⟨rv, b, _, _, ⟨G, g2, d2, t2, os'⟩, _, .ref C, some d, rfl, J3, kG, ge, hoe, ⟨rfl, rfl, fun vs hv => ?_⟩, rfl, rfl, na, rfl, bare2, raises_own T.exC T.tyC, q2⟩
    cases hv
    rfl
end
/-! ### facts of exception classes, by tests -/
def oexB (K : PySem.W.Frag) (x : Str) : Bool :=
  (match K.lookup (He.ga K x) with
    | some ⟨c, _, .cls cd, sl⟩ => decide (c = .type "type") && (match cd.mro, sl.toList with
      | .ref C' :: bm, [_, _, _, _, some (.builtin n), _] => decide (C' = He.ga K x) && (decide (n = "ValueError.__new__") && (PySem.HandSPX.refsVE bm && (cd.hasDict && !cd.hasDel)))
      | _, _ => false)
    | _ => false)
theorem oexB_ok {K : PySem.W.Frag} {x : Str} (h : oexB K x = true) : ∃ nm q N bs bm sn sub ab col dd k0 k1 k2 k3 k5, K.lookup (He.ga K x) = some (excClassObj nm q (He.ga K x) N bs bm true sn sub ab col dd k0 k1 k2 k3 k5 "ValueError.__new__") ∧ PySem.HandSPX.refsVE bm = true := by
  unfold oexB at h
  split at h
  · rename_i c dd cd sl hl
    obtain ⟨h1, h2⟩ := Bool.and_eq_true_iff.mp h
    split at h2
    · rename_i C' bm k0 k1 k2 k3 n k5 e1 e2
      simp only [Bool.and_eq_true, decide_eq_true_eq, Bool.not_eq_true'] at h2
      obtain ⟨a1, a2, a3, a4, a5⟩ := h2
      obtain ⟨nm, bs, mro, N, q, hd, sn, sub, ab, col, del⟩ := cd
      have e1' : mro = .ref C' :: bm := e1
      have a4' : hd = true := a4
      have a5' : del = false := a5
      subst e1' a4' a5' a2
      have hc := of_decide_eq_true h1
      subst hc
      have es : sl = #[k0, k1, k2, k3, some (.builtin "ValueError.__new__"), k5] := by
        rw [← Array.toList_inj]
        exact e2
      subst es
      refine ⟨nm, q, N, bs, bm, sn, sub, ab, col, dd, k0, k1, k2, k3, k5, ?_, a3⟩
      rw [hl, a1]
    · cases h2
  · cases h
def excB (K : PySem.W.Frag) (x : Str) : Bool := PySem.W.keepIn K (.ref (He.ga K x)) && (decide (PySem.W.subIn K (.ref (He.ga K x)) (.type "BaseException") = some true) && decide (PySem.W.typeIn K (.ref (He.ga K x)) = some (.type "type")))
/-- a class with an own __init__ that stores f -/
def oexF (K : PySem.W.Frag) (x f : Str) : Bool := oexB K x && (excB K x && (He.eqO (PySem.W.findIn K (.ref (He.ga K x)) "__setattr__") (some (some (.builtin "object.__setattr__"))) &&
  (He.eqO (PySem.W.findIn K (.ref (He.ga K x)) "__init__") (some (some (.ref (He.ma K (He.ga K x) "__init__")))) && (decide (PySem.W.typeIn K (.ref (He.ma K (He.ga K x) "__init__")) = some (.type "function")) && He.eqO (PySem.W.findIn K (.ref (He.ga K x)) f) (some none)))))
structure OexT (K : PySem.W.Frag) (x f : Str) : Prop where
  oc : OexC K (He.ga K x)
  ini : PySem.W.findIn K (.ref (He.ga K x)) "__init__" = some (some (.ref (He.ma K (He.ga K x) "__init__")))
  typ : PySem.W.typeIn K (.ref (He.ma K (He.ga K x) "__init__")) = some (.type "function")
  noF : PySem.W.findIn K (.ref (He.ga K x)) f = some none
theorem oexF_ok {K : PySem.W.Frag} {x f : Str} (h : oexF K x f = true) : OexT K x f := by
  unfold oexF excB at h
  simp only [Bool.and_eq_true, decide_eq_true_eq] at h
  obtain ⟨a, ⟨b1, b2, b3⟩, c, d, e, g⟩ := h
  exact ⟨⟨oexB_ok a, He.eqO_ok c, b2, b3, b1⟩, He.eqO_ok d, e, He.eqO_ok g⟩
/-- a class without -/
def oxnB (K : PySem.W.Frag) (x : Str) : Bool := PySem.W.excIn K (He.ga K x) He.veBase "ValueError.__new__" && excB K x
structure OxnT (K : PySem.W.Frag) (x : Str) : Prop where
  ex : PySem.W.excIn K (He.ga K x) He.veBase "ValueError.__new__" = true
  kp : PySem.W.keepIn K (.ref (He.ga K x)) = true
  sb : PySem.W.subIn K (.ref (He.ga K x)) (.type "BaseException") = some true
  ty : PySem.W.typeIn K (.ref (He.ga K x)) = some (.type "type")
theorem oxnB_ok {K : PySem.W.Frag} {x : Str} (h : oxnB K x = true) : OxnT K x := by
  unfold oxnB excB at h
  simp only [Bool.and_eq_true, decide_eq_true_eq] at h
  obtain ⟨a, b1, b2, b3⟩ := h
  exact ⟨a, b1, b2, b3⟩
/-! ### properties -/
def propAd (K : PySem.W.Frag) (c f : Str) : Addr := He.ma K (He.ga K c) f
def propB (K : PySem.W.Frag) (c f : Str) (n : Nat) : Addr := match PySem.W.recIn K (propAd K c f) "property" with
  | some vs => (match vs[n]? with
    | some (.ref a) => a
    | _ => 0)
  | none => 0
def prpB (K : PySem.W.Frag) (c f : Str) : Bool := He.eqO (PySem.W.findIn K (.ref (He.ga K c)) f) (some (some (.ref (propAd K c f)))) && (decide (PySem.W.specialIn K (.ref (propAd K c f)) "__get__" = some (some (.builtin "property.__get__"))) &&
  (decide (PySem.W.takesIn K (.ref (propAd K c f)) = some true) && (match PySem.W.recIn K (propAd K c f) "property" with
    | some (.ref a :: _) => true
    | _ => false)))
theorem prpB_ok {K : PySem.W.Frag} {c f : Str} (h : prpB K c f = true) : PropOf K (He.ga K c) f (propAd K c f) (propB K c f 0) := by
  unfold prpB at h
  simp only [Bool.and_eq_true, decide_eq_true_eq] at h
  obtain ⟨a, b, c1, d⟩ := h
  split at d
  · rename_i a' r e
    refine ⟨He.eqO_ok a, b, c1, r, ?_⟩
    unfold propB
    rw [e] <;> rfl
  · cases d
/-! Rules that the kit lacks: a store through a property; raise .. from e in a suite; try-as whose suite raises. -/
structure PropS (K : PySem.W.Frag) (C : Addr) (f : Str) (p g : Addr) : Prop where
  tk : PySem.W.takerIn K C f = some (some (.ref p))
  ty : PySem.W.typeIn K (.ref p) = some (.type "property")
  rc : ∃ a rest, PySem.W.recIn K p "property" = some (a :: .ref g :: rest)
def prsB (K : PySem.W.Frag) (c f : Str) : Bool := He.eqO (PySem.W.takerIn K (He.ga K c) f) (some (some (.ref (propAd K c f)))) && (decide (PySem.W.typeIn K (.ref (propAd K c f)) = some (.type "property")) && (match PySem.W.recIn K (propAd K c f) "property" with
    | some (_ :: .ref _ :: _) => true
    | _ => false))
theorem prsB_ok {K : PySem.W.Frag} {c f : Str} (h : prsB K c f = true) : PropS K (He.ga K c) f (propAd K c f) (propB K c f 1) := by
  unfold prsB at h
  simp only [Bool.and_eq_true, decide_eq_true_eq] at h
  obtain ⟨a, b, d⟩ := h
  split at d
  · rename_i x g r e
    refine ⟨He.eqO_ok a, b, x, r, ?_⟩
    unfold propB
    rw [e] <;> rfl
  · cases d
/-! an error class as isinstance sees it -/
def excCB (K : PySem.W.Frag) (x : Str) : Bool := He.eqO (PySem.W.findIn K (.ref (He.ga K x)) "__getattribute__") (some (some (.builtin "BaseException.__getattribute__"))) && (He.eqO (PySem.W.findIn K (.ref (He.ga K x)) "__getattr__") (some none) &&
  (decide (PySem.W.subIn K (.ref (He.ga K x)) (.type "BaseException") = some true) && (PySem.W.hasDictIn K (He.ga K x) && (He.eqO (PySem.W.findIn K (.ref (He.ga K x)) "__class__") (some (some (.builtin "object.__class__"))) &&
  (decide (PySem.W.specialIn K (.builtin "object.__class__") "__get__" = some (some (.builtin "getset_descriptor.__get__"))) && (decide (PySem.W.takesIn K (.builtin "object.__class__") = some true) && decide (PySem.W.mroIn K (He.ga K x) (.type "object") = some true)))))))
theorem excCB_ok {K : PySem.W.Frag} {x : Str} (h : excCB K x = true) : ExcC K (He.ga K x) := by
  unfold excCB at h
  simp only [Bool.and_eq_true, decide_eq_true_eq] at h
  obtain ⟨a, b, c, d, e, f, g, i⟩ := h
  exact ⟨He.eqO_ok a, He.eqO_ok b, c, d, He.eqO_ok e, f, g, i⟩
def sPrp (C : Addr) (sp : Sp) (E : L2.St → XK) (ta tv : TE) : TS := fun D σ H => tv σ H fun y H1 => ta σ H1 fun x H2 => ∃ a dx fs, x = .ref a ∧ H2 a = some (.ins C dx fs) ∧ sp [.ref a, y] H2 (fun _ H3 => D.nx σ H3) (E σ)
section
variable {X : Cx} {CX : CXT} {k : Nat} {C p g : Addr} {sp : Sp} {E : L2.St → XK} {f : Str} {o value : Expr} {pos pos' : Pos} {ta tv : TE}
theorem ps_prp (ha : PE X o ta) (hv : PE X value tv) (c : Cls X.K C) (hp : PropS X.K C f p g) (F : FnR X.prog X.w X.K X.mg X.base CX k g sp) (hr : Room (k + 2) X.A) (hx : ∀ σ, PassesAt CX X σ (E σ))
    (hs : swapsWith value (some (.Attribute o f pos')) pos.line X.env = pure false) : PS X (.Assign [.Attribute o f pos'] value pos) (sPrp C sp E ta tv) := by
  refine ⟨fun pins s σ H D I h => ?_⟩
  refine plainObj_wpAny_Assign_Attribute (thn (hv.run pins s σ H _ I h) fun u s1 ⟨y, H1, I1, ry, q⟩ => thn (ha.run pins s1 σ H1 _ I1 q) fun ov s2 ⟨x, H2, I2, rx, a, dx, fs, ex, ea, q2⟩ => ?_) hs
  subst ex
  obtain rfl : ov = Value.ref a := rx
  obtain ⟨mA, O, _, _, _, _⟩ := ins_get I2.hok ea
  obtain ⟨od, J, _⟩ := O.look
  obtain ⟨x0, rest, hrec⟩ := hp.rc
  have I3 := I2.tok (s2.toks + 1)
  refine PySem.W.set_plain I2.kIn J c.sa (PySem.W.osa_descr (s := { s2 with toks := s2.toks + 1 }) PySem.W.KF.slot_pset I2.kIn J c.po hp.tk hp.ty (PySem.W.prop_set (s := { s2 with toks := s2.toks + 1 }) I2.kIn hrec ?_))
  refine codeAny_mono (F X.A.in1.in1 X.stack { s2 with toks := s2.toks + 1 } H2 [.ref a, u] [.ref a, y] _ (E σ) hr.in1.in1 I3.env0.in1.in1 (.cons rfl (.cons ry .nil)) q2) fun r s' hq => ?_
  match r, hq with
  | .error er, hq => exact hx σ pins H2 _ er s' I3 hq
  | .ok (.ret u'), hq =>
    obtain ⟨v, H', I4, rv, q4⟩ := I3.after hq
    exact ⟨σ, H', I4, q4⟩
  | .ok .next, hq => exact hq.elim
  | .ok .brk, hq => exact hq.elim
  | .ok .cont, hq => exact hq.elim
theorem ts_prp {D : Ends} {σ : L2.St} {H : Hp} (k : tv σ H fun y H1 => ta σ H1 fun x H2 => ∃ a dx fs, x = .ref a ∧ H2 a = some (.ins C dx fs) ∧ sp [.ref a, y] H2 (fun _ H3 => D.nx σ H3) (E σ)) : sPrp C sp E ta tv D σ H := k
end
/-! Printed by kgen.py from the text of the law: places, facts. -/
def top (i : Nat) : Stmt := PySem.Challenge.pw_aimstoldback_k88_whole_steps_undone.main.body.getD i (.Pass ⟨0, 0, 0, 0⟩)
abbrev s_InvalidTerm___init__ : Stmt := inClass (top 4) 0
abbrev q_InvalidTerm___init__ : Str := "InvalidTerm.__init__"
abbrev N_InvalidTerm___init__ : List Str := ["self", "path"]
theorem sc_InvalidTerm___init__ : FnScope N_InvalidTerm___init__ ["self", "path"] (defScope s_InvalidTerm___init__) := ⟨rfl, rfl, rfl, by decide +kernel, rfl, by decide +kernel, by decide +kernel⟩
abbrev s_UnknownName___init__ : Stmt := inClass (top 8) 0
abbrev q_UnknownName___init__ : Str := "UnknownName.__init__"
abbrev N_UnknownName___init__ : List Str := ["self", "name"]
theorem sc_UnknownName___init__ : FnScope N_UnknownName___init__ ["self", "name"] (defScope s_UnknownName___init__) := ⟨rfl, rfl, rfl, by decide +kernel, rfl, by decide +kernel, by decide +kernel⟩
abbrev s_NameTaken___init__ : Stmt := inClass (top 9) 0
abbrev q_NameTaken___init__ : Str := "NameTaken.__init__"
abbrev N_NameTaken___init__ : List Str := ["self", "name"]
theorem sc_NameTaken___init__ : FnScope N_NameTaken___init__ ["self", "name"] (defScope s_NameTaken___init__) := ⟨rfl, rfl, rfl, by decide +kernel, rfl, by decide +kernel, by decide +kernel⟩
abbrev s_EditFailed___init__ : Stmt := inClass (top 11) 0
abbrev q_EditFailed___init__ : Str := "EditFailed.__init__"
abbrev N_EditFailed___init__ : List Str := ["self", "index"]
theorem sc_EditFailed___init__ : FnScope N_EditFailed___init__ ["self", "index"] (defScope s_EditFailed___init__) := ⟨rfl, rfl, rfl, by decide +kernel, rfl, by decide +kernel, by decide +kernel⟩
abbrev s_is_word : Stmt := top 19
abbrev q_is_word : Str := "is_word"
abbrev N_is_word : List Str := ["item", "sign"]
theorem sc_is_word : FnScope N_is_word ["item"] (defScope s_is_word) := ⟨rfl, rfl, rfl, by decide +kernel, rfl, by decide +kernel, by decide +kernel⟩
abbrev s_is_number : Stmt := top 20
abbrev q_is_number : Str := "is_number"
abbrev N_is_number : List Str := ["item"]
theorem sc_is_number : FnScope N_is_number ["item"] (defScope s_is_number) := ⟨rfl, rfl, rfl, by decide +kernel, rfl, by decide +kernel, by decide +kernel⟩
abbrev s_write_part : Stmt := top 21
abbrev q_write_part : Str := "write_part"
abbrev N_write_part : List Str := ["term", "path", "texts", "k"]
theorem sc_write_part : FnScope N_write_part ["term", "path"] (defScope s_write_part) := ⟨rfl, rfl, rfl, by decide +kernel, rfl, by decide +kernel, by decide +kernel⟩
abbrev s_write_term : Stmt := top 22
abbrev q_write_term : Str := "write_term"
abbrev N_write_term : List Str := ["term"]
theorem sc_write_term : FnScope N_write_term ["term"] (defScope s_write_term) := ⟨rfl, rfl, rfl, by decide +kernel, rfl, by decide +kernel, by decide +kernel⟩
abbrev s_is_use : Stmt := top 31
abbrev q_is_use : Str := "is_use"
abbrev N_is_use : List Str := ["term"]
theorem sc_is_use : FnScope N_is_use ["term"] (defScope s_is_use) := ⟨rfl, rfl, rfl, by decide +kernel, rfl, by decide +kernel, by decide +kernel⟩
abbrev s_nesting : Stmt := top 32
abbrev q_nesting : Str := "nesting"
abbrev N_nesting : List Str := ["term", "inner", "item"]
theorem sc_nesting : FnScope N_nesting ["term", "inner"] (defScope s_nesting) := ⟨rfl, rfl, rfl, by decide +kernel, rfl, by decide +kernel, by decide +kernel⟩
abbrev s_put_paper : Stmt := top 33
abbrev q_put_paper : Str := "put_paper"
abbrev N_put_paper : List Str := ["papers", "name", "kind", "term", "changed"]
theorem sc_put_paper : FnScope N_put_paper ["papers", "name", "kind", "term"] (defScope s_put_paper) := ⟨rfl, rfl, rfl, by decide +kernel, rfl, by decide +kernel, by decide +kernel⟩
abbrev s_drop_paper : Stmt := top 34
abbrev q_drop_paper : Str := "drop_paper"
abbrev N_drop_paper : List Str := ["papers", "name", "other"]
theorem sc_drop_paper : FnScope N_drop_paper ["papers", "name"] (defScope s_drop_paper) := ⟨rfl, rfl, rfl, by decide +kernel, rfl, by decide +kernel, by decide +kernel⟩
abbrev s_replace_name : Stmt := top 35
abbrev q_replace_name : Str := "replace_name"
abbrev N_replace_name : List Str := ["term", "use", "name", "item"]
theorem sc_replace_name : FnScope N_replace_name ["term", "use", "name"] (defScope s_replace_name) := ⟨rfl, rfl, rfl, by decide +kernel, rfl, by decide +kernel, by decide +kernel⟩
abbrev s_rename_paper : Stmt := top 36
abbrev q_rename_paper : Str := "rename_paper"
abbrev N_rename_paper : List Str := ["papers", "old", "new", "use", "changed", "name", "kind", "term"]
theorem sc_rename_paper : FnScope N_rename_paper ["papers", "old", "new"] (defScope s_rename_paper) := ⟨rfl, rfl, rfl, by decide +kernel, rfl, by decide +kernel, by decide +kernel⟩
abbrev s_Desk___init__ : Stmt := inClass (top 40) 0
abbrev q_Desk___init__ : Str := "Desk.__init__"
abbrev N_Desk___init__ : List Str := ["self", "outcomes"]
theorem sc_Desk___init__ : FnScope N_Desk___init__ ["self", "outcomes"] (defScope s_Desk___init__) := ⟨rfl, rfl, rfl, by decide +kernel, rfl, by decide +kernel, by decide +kernel⟩
abbrev s_Desk_names : Stmt := inClass (top 40) 2
abbrev q_Desk_names : Str := "Desk.names"
abbrev N_Desk_names : List Str := ["self"]
theorem sc_Desk_names : FnScope N_Desk_names ["self"] (defScope s_Desk_names) := ⟨rfl, rfl, rfl, by decide +kernel, rfl, by decide +kernel, by decide +kernel⟩
abbrev s_Desk_steps : Stmt := inClass (top 40) 3
abbrev q_Desk_steps : Str := "Desk.steps"
abbrev N_Desk_steps : List Str := ["self"]
theorem sc_Desk_steps : FnScope N_Desk_steps ["self"] (defScope s_Desk_steps) := ⟨rfl, rfl, rfl, by decide +kernel, rfl, by decide +kernel, by decide +kernel⟩
abbrev s_Desk_undone : Stmt := inClass (top 40) 4
abbrev q_Desk_undone : Str := "Desk.undone"
abbrev N_Desk_undone : List Str := ["self"]
theorem sc_Desk_undone : FnScope N_Desk_undone ["self"] (defScope s_Desk_undone) := ⟨rfl, rfl, rfl, by decide +kernel, rfl, by decide +kernel, by decide +kernel⟩
abbrev s_Desk_limit : Stmt := inClass (top 40) 5
abbrev q_Desk_limit : Str := "Desk.limit"
abbrev N_Desk_limit : List Str := ["self"]
theorem sc_Desk_limit : FnScope N_Desk_limit ["self"] (defScope s_Desk_limit) := ⟨rfl, rfl, rfl, by decide +kernel, rfl, by decide +kernel, by decide +kernel⟩
abbrev s_Desk_limit_set : Stmt := inClass (top 40) 6
abbrev q_Desk_limit_set : Str := "Desk.limit"
abbrev N_Desk_limit_set : List Str := ["self", "limit"]
theorem sc_Desk_limit_set : FnScope N_Desk_limit_set ["self", "limit"] (defScope s_Desk_limit_set) := ⟨rfl, rfl, rfl, by decide +kernel, rfl, by decide +kernel, by decide +kernel⟩
abbrev s_Desk_keep : Stmt := inClass (top 40) 7
abbrev q_Desk_keep : Str := "Desk.keep"
abbrev N_Desk_keep : List Str := ["self", "limit"]
theorem sc_Desk_keep : FnScope N_Desk_keep ["self", "limit"] (defScope s_Desk_keep) := ⟨rfl, rfl, rfl, by decide +kernel, rfl, by decide +kernel, by decide +kernel⟩
abbrev s_Desk_kind_of : Stmt := inClass (top 40) 8
abbrev q_Desk_kind_of : Str := "Desk.kind_of"
abbrev N_Desk_kind_of : List Str := ["self", "name"]
theorem sc_Desk_kind_of : FnScope N_Desk_kind_of ["self", "name"] (defScope s_Desk_kind_of) := ⟨rfl, rfl, rfl, by decide +kernel, rfl, by decide +kernel, by decide +kernel⟩
abbrev s_Desk_term_of : Stmt := inClass (top 40) 9
abbrev q_Desk_term_of : Str := "Desk.term_of"
abbrev N_Desk_term_of : List Str := ["self", "name"]
theorem sc_Desk_term_of : FnScope N_Desk_term_of ["self", "name"] (defScope s_Desk_term_of) := ⟨rfl, rfl, rfl, by decide +kernel, rfl, by decide +kernel, by decide +kernel⟩
abbrev s_Desk__paper : Stmt := inClass (top 40) 10
abbrev q_Desk__paper : Str := "Desk._paper"
abbrev N_Desk__paper : List Str := ["self", "name"]
theorem sc_Desk__paper : FnScope N_Desk__paper ["self", "name"] (defScope s_Desk__paper) := ⟨rfl, rfl, rfl, by decide +kernel, rfl, by decide +kernel, by decide +kernel⟩
abbrev s_Desk__take_step : Stmt := inClass (top 40) 11
abbrev q_Desk__take_step : Str := "Desk._take_step"
abbrev N_Desk__take_step : List Str := ["self", "papers"]
theorem sc_Desk__take_step : FnScope N_Desk__take_step ["self", "papers"] (defScope s_Desk__take_step) := ⟨rfl, rfl, rfl, by decide +kernel, rfl, by decide +kernel, by decide +kernel⟩
abbrev s_Desk_put : Stmt := inClass (top 40) 12
abbrev q_Desk_put : Str := "Desk.put"
abbrev N_Desk_put : List Str := ["self", "name", "kind", "term"]
theorem sc_Desk_put : FnScope N_Desk_put ["self", "name", "kind", "term"] (defScope s_Desk_put) := ⟨rfl, rfl, rfl, by decide +kernel, rfl, by decide +kernel, by decide +kernel⟩
abbrev s_Desk_drop : Stmt := inClass (top 40) 13
abbrev q_Desk_drop : Str := "Desk.drop"
abbrev N_Desk_drop : List Str := ["self", "name"]
theorem sc_Desk_drop : FnScope N_Desk_drop ["self", "name"] (defScope s_Desk_drop) := ⟨rfl, rfl, rfl, by decide +kernel, rfl, by decide +kernel, by decide +kernel⟩
abbrev s_Desk_rename : Stmt := inClass (top 40) 14
abbrev q_Desk_rename : Str := "Desk.rename"
abbrev N_Desk_rename : List Str := ["self", "old", "new"]
theorem sc_Desk_rename : FnScope N_Desk_rename ["self", "old", "new"] (defScope s_Desk_rename) := ⟨rfl, rfl, rfl, by decide +kernel, rfl, by decide +kernel, by decide +kernel⟩
abbrev s_Desk_run : Stmt := inClass (top 40) 15
abbrev q_Desk_run : Str := "Desk.run"
abbrev N_Desk_run : List Str := ["self", "edits", "papers", "index", "e"]
theorem sc_Desk_run : FnScope N_Desk_run ["self", "edits"] (defScope s_Desk_run) := ⟨rfl, rfl, rfl, by decide +kernel, rfl, by decide +kernel, by decide +kernel⟩
abbrev s_Desk_undo : Stmt := inClass (top 40) 16
abbrev q_Desk_undo : Str := "Desk.undo"
abbrev N_Desk_undo : List Str := ["self"]
theorem sc_Desk_undo : FnScope N_Desk_undo ["self"] (defScope s_Desk_undo) := ⟨rfl, rfl, rfl, by decide +kernel, rfl, by decide +kernel, by decide +kernel⟩
abbrev s_Desk_redo : Stmt := inClass (top 40) 17
abbrev q_Desk_redo : Str := "Desk.redo"
abbrev N_Desk_redo : List Str := ["self"]
theorem sc_Desk_redo : FnScope N_Desk_redo ["self"] (defScope s_Desk_redo) := ⟨rfl, rfl, rfl, by decide +kernel, rfl, by decide +kernel, by decide +kernel⟩
abbrev s_edited : Stmt := top 41
abbrev q_edited : Str := "edited"
abbrev N_edited : List Str := ["papers", "edit"]
theorem sc_edited : FnScope N_edited ["papers", "edit"] (defScope s_edited) := ⟨rfl, rfl, rfl, by decide +kernel, rfl, by decide +kernel, by decide +kernel⟩
abbrev s__law_start : Stmt := top 44
abbrev q__law_start : Str := "_law_start"
abbrev N__law_start : List Str := ["script", "seed", "k"]
theorem sc__law_start : FnScope N__law_start ["script"] (defScope s__law_start) := ⟨rfl, rfl, rfl, by decide +kernel, rfl, by decide +kernel, by decide +kernel⟩
abbrev s__law_pick : Stmt := top 45
abbrev q__law_pick : Str := "_law_pick"
abbrev N__law_pick : List Str := ["state", "limit", "rest", "cell", "mixed"]
theorem sc__law_pick : FnScope N__law_pick ["state", "limit"] (defScope s__law_pick) := ⟨rfl, rfl, rfl, by decide +kernel, rfl, by decide +kernel, by decide +kernel⟩
abbrev s__law_same : Stmt := top 46
abbrev q__law_same : Str := "_law_same"
abbrev N__law_same : List Str := ["actual", "due", "p"]
theorem sc__law_same : FnScope N__law_same ["actual", "due"] (defScope s__law_same) := ⟨rfl, rfl, rfl, by decide +kernel, rfl, by decide +kernel, by decide +kernel⟩
abbrev s__law_names : Stmt := top 47
abbrev q__law_names : Str := "_law_names"
abbrev N__law_names : List Str := ["state", "many", "letters", "names", "x", "size", "name", "y"]
theorem sc__law_names : FnScope N__law_names ["state", "many"] (defScope s__law_names) := ⟨rfl, rfl, rfl, by decide +kernel, rfl, by decide +kernel, by decide +kernel⟩
abbrev s__law_pool : Stmt := top 48
abbrev q__law_pool : Str := "_law_pool"
abbrev N__law_pool : List Str := ["state", "letters", "stem", "x", "sign"]
theorem sc__law_pool : FnScope N__law_pool ["state"] (defScope s__law_pool) := ⟨rfl, rfl, rfl, by decide +kernel, rfl, by decide +kernel, by decide +kernel⟩
abbrev s__law_small_term : Stmt := top 49
abbrev q__law_small_term : Str := "_law_small_term"
abbrev N__law_small_term : List Str := ["state", "names", "way", "name", "use"]
theorem sc__law_small_term : FnScope N__law_small_term ["state", "names"] (defScope s__law_small_term) := ⟨rfl, rfl, rfl, by decide +kernel, rfl, by decide +kernel, by decide +kernel⟩
abbrev s__law_edit : Stmt := top 50
abbrev q__law_edit : Str := "_law_edit"
abbrev N__law_edit : List Str := ["state", "names", "known", "way", "name", "kind", "term", "spoil", "new"]
theorem sc__law_edit : FnScope N__law_edit ["state", "names", "known"] (defScope s__law_edit) := ⟨rfl, rfl, rfl, by decide +kernel, rfl, by decide +kernel, by decide +kernel⟩
abbrev s__law_opening : Stmt := top 51
abbrev q__law_opening : Str := "_law_opening"
abbrev N__law_opening : List Str := ["state", "names", "deeds", "limit", "x", "name"]
theorem sc__law_opening : FnScope N__law_opening ["state", "names"] (defScope s__law_opening) := ⟨rfl, rfl, rfl, by decide +kernel, rfl, by decide +kernel, by decide +kernel⟩
abbrev s__law_deeds : Stmt := top 52
abbrev q__law_deeds : Str := "_law_deeds"
abbrev N__law_deeds : List Str := ["state", "names", "known", "way", "y"]
theorem sc__law_deeds : FnScope N__law_deeds ["state", "names", "known"] (defScope s__law_deeds) := ⟨rfl, rfl, rfl, by decide +kernel, rfl, by decide +kernel, by decide +kernel⟩
abbrev s__law_reason : Stmt := top 53
abbrev q__law_reason : Str := "_law_reason"
abbrev N__law_reason : List Str := ["papers", "edit"]
theorem sc__law_reason : FnScope N__law_reason ["papers", "edit"] (defScope s__law_reason) := ⟨rfl, rfl, rfl, by decide +kernel, rfl, by decide +kernel, by decide +kernel⟩
abbrev s__law_renamed : Stmt := top 54
abbrev q__law_renamed : Str := "_law_renamed"
abbrev N__law_renamed : List Str := ["term", "use", "new", "item"]
theorem sc__law_renamed : FnScope N__law_renamed ["term", "use", "new"] (defScope s__law_renamed) := ⟨rfl, rfl, rfl, by decide +kernel, rfl, by decide +kernel, by decide +kernel⟩
abbrev s__law_edited : Stmt := top 55
abbrev q__law_edited : Str := "_law_edited"
abbrev N__law_edited : List Str := ["papers", "edit", "after", "name", "use", "turned"]
theorem sc__law_edited : FnScope N__law_edited ["papers", "edit"] (defScope s__law_edited) := ⟨rfl, rfl, rfl, by decide +kernel, rfl, by decide +kernel, by decide +kernel⟩
abbrev s__law_step : Stmt := top 56
abbrev q__law_step : Str := "_law_step"
abbrev N__law_step : List Str := ["world", "papers"]
theorem sc__law_step : FnScope N__law_step ["world", "papers"] (defScope s__law_step) := ⟨rfl, rfl, rfl, by decide +kernel, rfl, by decide +kernel, by decide +kernel⟩
abbrev s__law_run_due : Stmt := top 57
abbrev q__law_run_due : Str := "_law_run_due"
abbrev N__law_run_due : List Str := ["world", "edits", "papers", "index"]
theorem sc__law_run_due : FnScope N__law_run_due ["world", "edits"] (defScope s__law_run_due) := ⟨rfl, rfl, rfl, by decide +kernel, rfl, by decide +kernel, by decide +kernel⟩
abbrev s__law_due : Stmt := top 58
abbrev q__law_due : Str := "_law_due"
abbrev N__law_due : List Str := ["world", "deed", "way", "reason"]
theorem sc__law_due : FnScope N__law_due ["world", "deed"] (defScope s__law_due) := ⟨rfl, rfl, rfl, by decide +kernel, rfl, by decide +kernel, by decide +kernel⟩
abbrev s__law_run_told : Stmt := top 59
abbrev q__law_run_told : Str := "_law_run_told"
abbrev N__law_run_told : List Str := ["desk", "edits"]
theorem sc__law_run_told : FnScope N__law_run_told ["desk", "edits"] (defScope s__law_run_told) := ⟨rfl, rfl, rfl, by decide +kernel, rfl, by decide +kernel, by decide +kernel⟩
abbrev s__law_edit_told : Stmt := top 60
abbrev q__law_edit_told : Str := "_law_edit_told"
abbrev N__law_edit_told : List Str := ["desk", "deed"]
theorem sc__law_edit_told : FnScope N__law_edit_told ["desk", "deed"] (defScope s__law_edit_told) := ⟨rfl, rfl, rfl, by decide +kernel, rfl, by decide +kernel, by decide +kernel⟩
abbrev s__law_told : Stmt := top 61
abbrev q__law_told : Str := "_law_told"
abbrev N__law_told : List Str := ["desk", "deed", "told", "e", "kinds"]
theorem sc__law_told : FnScope N__law_told ["desk", "deed"] (defScope s__law_told) := ⟨rfl, rfl, rfl, by decide +kernel, rfl, by decide +kernel, by decide +kernel⟩
abbrev s__law_stands : Stmt := top 62
abbrev q__law_stands : Str := "_law_stands"
abbrev N__law_stands : List Str := ["desk", "world", "papers", "name"]
theorem sc__law_stands : FnScope N__law_stands ["desk", "world"] (defScope s__law_stands) := ⟨rfl, rfl, rfl, by decide +kernel, rfl, by decide +kernel, by decide +kernel⟩
abbrev s__law_walked : Stmt := top 63
abbrev q__law_walked : Str := "_law_walked"
abbrev N__law_walked : List Str := ["desk", "world", "deeds", "deed", "due"]
theorem sc__law_walked : FnScope N__law_walked ["desk", "world", "deeds"] (defScope s__law_walked) := ⟨rfl, rfl, rfl, by decide +kernel, rfl, by decide +kernel, by decide +kernel⟩
abbrev s__law_nine : Stmt := top 64
abbrev q__law_nine : Str := "_law_nine"
abbrev N__law_nine : List Str := ["state", "names", "known", "sure", "edits", "x", "kind"]
theorem sc__law_nine : FnScope N__law_nine ["state", "names", "known"] (defScope s__law_nine) := ⟨rfl, rfl, rfl, by decide +kernel, rfl, by decide +kernel, by decide +kernel⟩
abbrev s__law_hundred : Stmt := top 65
abbrev q__law_hundred : Str := "_law_hundred"
abbrev N__law_hundred : List Str := ["state", "names", "limit", "desk", "world", "deeds", "x"]
theorem sc__law_hundred : FnScope N__law_hundred ["state", "names"] (defScope s__law_hundred) := ⟨rfl, rfl, rfl, by decide +kernel, rfl, by decide +kernel, by decide +kernel⟩
abbrev s_law : Stmt := top 66
abbrev q_law : Str := "law"
abbrev N_law : List Str := ["script", "state", "desk", "names", "world", "x"]
theorem sc_law : FnScope N_law ["script"] (defScope s_law) := ⟨rfl, rfl, rfl, by decide +kernel, rfl, by decide +kernel, by decide +kernel⟩
abbrev c_LETTERS_v : Str := "abcdefghijklmnopqrstuvwxyz"
abbrev c_DIGITS_v : Str := "0123456789"
def fn : List DX := [⟨fun K => He.ma K (He.ga K "InvalidTerm") "__init__", "__init__", q_InvalidTerm___init__, s_InvalidTerm___init__, [], []⟩,
  ⟨fun K => He.ma K (He.ga K "UnknownName") "__init__", "__init__", q_UnknownName___init__, s_UnknownName___init__, [], []⟩,
  ⟨fun K => He.ma K (He.ga K "NameTaken") "__init__", "__init__", q_NameTaken___init__, s_NameTaken___init__, [], []⟩,
  ⟨fun K => He.ma K (He.ga K "EditFailed") "__init__", "__init__", q_EditFailed___init__, s_EditFailed___init__, [], []⟩,
  ⟨fun K => He.ga K "is_word", "is_word", q_is_word, s_is_word, [], []⟩,
  ⟨fun K => He.ga K "is_number", "is_number", q_is_number, s_is_number, [], []⟩,
  ⟨fun K => He.ga K "write_part", "write_part", q_write_part, s_write_part, [], []⟩,
  ⟨fun K => He.ga K "write_term", "write_term", q_write_term, s_write_term, [], []⟩,
  ⟨fun K => He.ga K "is_use", "is_use", q_is_use, s_is_use, [], []⟩,
  ⟨fun K => He.ga K "nesting", "nesting", q_nesting, s_nesting, [], []⟩,
  ⟨fun K => He.ga K "put_paper", "put_paper", q_put_paper, s_put_paper, [], []⟩,
  ⟨fun K => He.ga K "drop_paper", "drop_paper", q_drop_paper, s_drop_paper, [], []⟩,
  ⟨fun K => He.ga K "replace_name", "replace_name", q_replace_name, s_replace_name, [], []⟩,
  ⟨fun K => He.ga K "rename_paper", "rename_paper", q_rename_paper, s_rename_paper, [], []⟩,
  ⟨fun K => He.ma K (He.ga K "Desk") "__init__", "__init__", q_Desk___init__, s_Desk___init__, [], []⟩,
  ⟨fun K => propB K "Desk" "names" 0, "names", q_Desk_names, s_Desk_names, [], []⟩,
  ⟨fun K => propB K "Desk" "steps" 0, "steps", q_Desk_steps, s_Desk_steps, [], []⟩,
  ⟨fun K => propB K "Desk" "undone" 0, "undone", q_Desk_undone, s_Desk_undone, [], []⟩,
  ⟨fun K => propB K "Desk" "limit" 0, "limit", q_Desk_limit, s_Desk_limit, [], []⟩,
  ⟨fun K => propB K "Desk" "limit" 1, "limit", q_Desk_limit_set, s_Desk_limit_set, [], []⟩,
  ⟨fun K => He.ma K (He.ga K "Desk") "keep", "keep", q_Desk_keep, s_Desk_keep, [], []⟩,
  ⟨fun K => He.ma K (He.ga K "Desk") "kind_of", "kind_of", q_Desk_kind_of, s_Desk_kind_of, [], []⟩,
  ⟨fun K => He.ma K (He.ga K "Desk") "term_of", "term_of", q_Desk_term_of, s_Desk_term_of, [], []⟩,
  ⟨fun K => He.ma K (He.ga K "Desk") "_paper", "_paper", q_Desk__paper, s_Desk__paper, [], []⟩,
  ⟨fun K => He.ma K (He.ga K "Desk") "_take_step", "_take_step", q_Desk__take_step, s_Desk__take_step, [], []⟩,
  ⟨fun K => He.ma K (He.ga K "Desk") "put", "put", q_Desk_put, s_Desk_put, [], []⟩,
  ⟨fun K => He.ma K (He.ga K "Desk") "drop", "drop", q_Desk_drop, s_Desk_drop, [], []⟩,
  ⟨fun K => He.ma K (He.ga K "Desk") "rename", "rename", q_Desk_rename, s_Desk_rename, [], []⟩,
  ⟨fun K => He.ma K (He.ga K "Desk") "run", "run", q_Desk_run, s_Desk_run, [], []⟩,
  ⟨fun K => He.ma K (He.ga K "Desk") "undo", "undo", q_Desk_undo, s_Desk_undo, [], []⟩,
  ⟨fun K => He.ma K (He.ga K "Desk") "redo", "redo", q_Desk_redo, s_Desk_redo, [], []⟩,
  ⟨fun K => He.ga K "edited", "edited", q_edited, s_edited, [], []⟩,
  ⟨fun K => He.ga K "_law_start", "_law_start", q__law_start, s__law_start, [], []⟩,
  ⟨fun K => He.ga K "_law_pick", "_law_pick", q__law_pick, s__law_pick, [], []⟩,
  ⟨fun K => He.ga K "_law_same", "_law_same", q__law_same, s__law_same, [], []⟩,
  ⟨fun K => He.ga K "_law_names", "_law_names", q__law_names, s__law_names, [], []⟩,
  ⟨fun K => He.ga K "_law_pool", "_law_pool", q__law_pool, s__law_pool, [], []⟩,
  ⟨fun K => He.ga K "_law_small_term", "_law_small_term", q__law_small_term, s__law_small_term, [], []⟩,
  ⟨fun K => He.ga K "_law_edit", "_law_edit", q__law_edit, s__law_edit, [], []⟩,
  ⟨fun K => He.ga K "_law_opening", "_law_opening", q__law_opening, s__law_opening, [], []⟩,
  ⟨fun K => He.ga K "_law_deeds", "_law_deeds", q__law_deeds, s__law_deeds, [], []⟩,
  ⟨fun K => He.ga K "_law_reason", "_law_reason", q__law_reason, s__law_reason, [], []⟩,
  ⟨fun K => He.ga K "_law_renamed", "_law_renamed", q__law_renamed, s__law_renamed, [], []⟩,
  ⟨fun K => He.ga K "_law_edited", "_law_edited", q__law_edited, s__law_edited, [], []⟩,
  ⟨fun K => He.ga K "_law_step", "_law_step", q__law_step, s__law_step, [], []⟩,
  ⟨fun K => He.ga K "_law_run_due", "_law_run_due", q__law_run_due, s__law_run_due, [], []⟩,
  ⟨fun K => He.ga K "_law_due", "_law_due", q__law_due, s__law_due, [], []⟩,
  ⟨fun K => He.ga K "_law_run_told", "_law_run_told", q__law_run_told, s__law_run_told, [], []⟩,
  ⟨fun K => He.ga K "_law_edit_told", "_law_edit_told", q__law_edit_told, s__law_edit_told, [], []⟩,
  ⟨fun K => He.ga K "_law_told", "_law_told", q__law_told, s__law_told, [], []⟩,
  ⟨fun K => He.ga K "_law_stands", "_law_stands", q__law_stands, s__law_stands, [], []⟩,
  ⟨fun K => He.ga K "_law_walked", "_law_walked", q__law_walked, s__law_walked, [], []⟩,
  ⟨fun K => He.ga K "_law_nine", "_law_nine", q__law_nine, s__law_nine, [], []⟩,
  ⟨fun K => He.ga K "_law_hundred", "_law_hundred", q__law_hundred, s__law_hundred, [], []⟩,
  ⟨fun K => He.ga K "law", "law", q_law, s_law, [], []⟩]
def fx : List (PySem.W.Frag → Bool) := [fun K => (He.Fa.free "TypeError").ok K,
  fun K => (He.Fa.free "ValueError").ok K,
  fun K => (He.Fa.free "all").ok K,
  fun K => (He.Fa.free "any").ok K,
  fun K => (He.Fa.free "bool").ok K,
  fun K => (He.Fa.free "dict").ok K,
  fun K => (He.Fa.free "int").ok K,
  fun K => (He.Fa.free "isinstance").ok K,
  fun K => (He.Fa.free "len").ok K,
  fun K => (He.Fa.free "list").ok K,
  fun K => (He.Fa.free "max").ok K,
  fun K => (He.Fa.free "min").ok K,
  fun K => (He.Fa.free "range").ok K,
  fun K => (He.Fa.free "set").ok K,
  fun K => (He.Fa.free "sorted").ok K,
  fun K => (He.Fa.free "str").ok K,
  fun K => (He.Fa.free "sum").ok K,
  fun K => (He.Fa.free "tuple").ok K,
  fun K => (He.Fa.glo "is_word").ok K,
  fun K => (He.Fa.glo "is_number").ok K,
  fun K => (He.Fa.glo "write_part").ok K,
  fun K => (He.Fa.glo "write_term").ok K,
  fun K => (He.Fa.glo "is_use").ok K,
  fun K => (He.Fa.glo "nesting").ok K,
  fun K => (He.Fa.glo "put_paper").ok K,
  fun K => (He.Fa.glo "drop_paper").ok K,
  fun K => (He.Fa.glo "replace_name").ok K,
  fun K => (He.Fa.glo "rename_paper").ok K,
  fun K => (He.Fa.glo "edited").ok K,
  fun K => (He.Fa.glo "_law_start").ok K,
  fun K => (He.Fa.glo "_law_pick").ok K,
  fun K => (He.Fa.glo "_law_same").ok K,
  fun K => (He.Fa.glo "_law_names").ok K,
  fun K => (He.Fa.glo "_law_pool").ok K,
  fun K => (He.Fa.glo "_law_small_term").ok K,
  fun K => (He.Fa.glo "_law_edit").ok K,
  fun K => (He.Fa.glo "_law_opening").ok K,
  fun K => (He.Fa.glo "_law_deeds").ok K,
  fun K => (He.Fa.glo "_law_reason").ok K,
  fun K => (He.Fa.glo "_law_renamed").ok K,
  fun K => (He.Fa.glo "_law_edited").ok K,
  fun K => (He.Fa.glo "_law_step").ok K,
  fun K => (He.Fa.glo "_law_run_due").ok K,
  fun K => (He.Fa.glo "_law_due").ok K,
  fun K => (He.Fa.glo "_law_run_told").ok K,
  fun K => (He.Fa.glo "_law_edit_told").ok K,
  fun K => (He.Fa.glo "_law_told").ok K,
  fun K => (He.Fa.glo "_law_stands").ok K,
  fun K => (He.Fa.glo "_law_walked").ok K,
  fun K => (He.Fa.glo "_law_nine").ok K,
  fun K => (He.Fa.glo "_law_hundred").ok K,
  fun K => (He.Fa.glo "law").ok K,
  fun K => (He.Fa.str "LETTERS" c_LETTERS_v).ok K,
  fun K => (He.Fa.str "DIGITS" c_DIGITS_v).ok K,
  fun K => (He.Fa.int "MOST_LETTERS" 12).ok K,
  fun K => (He.Fa.int "MOST_DIGITS" 9).ok K,
  fun K => (He.Fa.int "MOST_NUMBER" 999999999).ok K,
  fun K => (He.Fa.int "MOST_DEPTH" 30).ok K,
  fun K => (He.Fa.glo "KINDS").ok K && He.tupB K "KINDS" [.str "aim", .str "tree"],
  fun K => (He.Fa.int "MOST_PAPERS" 20).ok K,
  fun K => (He.Fa.int "MOST_NESTING" 20).ok K,
  fun K => (He.Fa.int "FIRST_LIMIT" 20).ok K,
  fun K => (He.Fa.int "MOST_STEPS" 100).ok K,
  fun K => (He.Fa.glo "ChoosersError").ok K,
  fun K => (He.Fa.glo "Desk").ok K,
  fun K => (He.Fa.glo "EditFailed").ok K,
  fun K => (He.Fa.glo "InvalidName").ok K,
  fun K => (He.Fa.glo "InvalidTerm").ok K,
  fun K => (He.Fa.glo "NameTaken").ok K,
  fun K => (He.Fa.glo "NoStep").ok K,
  fun K => (He.Fa.glo "OutOfRange").ok K,
  fun K => (He.Fa.glo "TooLarge").ok K,
  fun K => (He.Fa.glo "UnknownName").ok K,
  fun K => (He.Fa.cls "Desk").ok K,
  fun K => (He.Fa.mkr "Desk").ok K,
  fun K => (He.Fa.noat "Desk" "outcomes").ok K,
  fun K => (He.Fa.noat "Desk" "_papers").ok K,
  fun K => (He.Fa.noat "Desk" "_done").ok K,
  fun K => (He.Fa.noat "Desk" "_undone").ok K,
  fun K => (He.Fa.noat "Desk" "_limit").ok K,
  fun K => (He.Fa.meth "Desk" "keep").ok K,
  fun K => (He.Fa.meth "Desk" "kind_of").ok K,
  fun K => (He.Fa.meth "Desk" "term_of").ok K,
  fun K => (He.Fa.meth "Desk" "_paper").ok K,
  fun K => (He.Fa.meth "Desk" "_take_step").ok K,
  fun K => (He.Fa.meth "Desk" "put").ok K,
  fun K => (He.Fa.meth "Desk" "drop").ok K,
  fun K => (He.Fa.meth "Desk" "rename").ok K,
  fun K => (He.Fa.meth "Desk" "run").ok K,
  fun K => (He.Fa.meth "Desk" "undo").ok K,
  fun K => (He.Fa.meth "Desk" "redo").ok K,
  fun K => oxnB K "ChoosersError",
  fun K => oexF K "InvalidTerm" "path",
  fun K => oxnB K "OutOfRange",
  fun K => oxnB K "TooLarge",
  fun K => oxnB K "InvalidName",
  fun K => oexF K "UnknownName" "name",
  fun K => oexF K "NameTaken" "name",
  fun K => oxnB K "NoStep",
  fun K => oexF K "EditFailed" "index",
  fun K => prpB K "Desk" "names",
  fun K => prpB K "Desk" "steps",
  fun K => prpB K "Desk" "undone",
  fun K => prpB K "Desk" "limit",
  fun K => prsB K "Desk" "limit",
  fun K => excCB K "InvalidTerm",
  fun K => decide (PySem.W.exmOne K (.ref (He.ga K "InvalidTerm")) (.ref (He.ga K "ChoosersError")) = some true),
  fun K => decide (PySem.W.kitOne K (.ref (He.ga K "InvalidTerm")) (.ref (He.ga K "EditFailed")) = some false),
  fun K => decide (PySem.W.kitOne K (.ref (He.ga K "InvalidTerm")) (.ref (He.ga K "NoStep")) = some false),
  fun K => decide (PySem.W.kitOne K (.ref (He.ga K "InvalidTerm")) (.ref (He.ga K "OutOfRange")) = some false),
  fun K => excCB K "OutOfRange",
  fun K => decide (PySem.W.exmOne K (.ref (He.ga K "OutOfRange")) (.ref (He.ga K "ChoosersError")) = some true),
  fun K => decide (PySem.W.kitOne K (.ref (He.ga K "OutOfRange")) (.ref (He.ga K "EditFailed")) = some false),
  fun K => decide (PySem.W.kitOne K (.ref (He.ga K "OutOfRange")) (.ref (He.ga K "NoStep")) = some false),
  fun K => decide (PySem.W.kitOne K (.ref (He.ga K "OutOfRange")) (.ref (He.ga K "OutOfRange")) = some true),
  fun K => excCB K "InvalidName",
  fun K => decide (PySem.W.exmOne K (.ref (He.ga K "InvalidName")) (.ref (He.ga K "ChoosersError")) = some true),
  fun K => decide (PySem.W.kitOne K (.ref (He.ga K "InvalidName")) (.ref (He.ga K "EditFailed")) = some false),
  fun K => decide (PySem.W.kitOne K (.ref (He.ga K "InvalidName")) (.ref (He.ga K "NoStep")) = some false),
  fun K => decide (PySem.W.kitOne K (.ref (He.ga K "InvalidName")) (.ref (He.ga K "OutOfRange")) = some false),
  fun K => excCB K "UnknownName",
  fun K => decide (PySem.W.exmOne K (.ref (He.ga K "UnknownName")) (.ref (He.ga K "ChoosersError")) = some true),
  fun K => decide (PySem.W.kitOne K (.ref (He.ga K "UnknownName")) (.ref (He.ga K "EditFailed")) = some false),
  fun K => decide (PySem.W.kitOne K (.ref (He.ga K "UnknownName")) (.ref (He.ga K "NoStep")) = some false),
  fun K => decide (PySem.W.kitOne K (.ref (He.ga K "UnknownName")) (.ref (He.ga K "OutOfRange")) = some false),
  fun K => excCB K "NameTaken",
  fun K => decide (PySem.W.exmOne K (.ref (He.ga K "NameTaken")) (.ref (He.ga K "ChoosersError")) = some true),
  fun K => decide (PySem.W.kitOne K (.ref (He.ga K "NameTaken")) (.ref (He.ga K "EditFailed")) = some false),
  fun K => decide (PySem.W.kitOne K (.ref (He.ga K "NameTaken")) (.ref (He.ga K "NoStep")) = some false),
  fun K => decide (PySem.W.kitOne K (.ref (He.ga K "NameTaken")) (.ref (He.ga K "OutOfRange")) = some false),
  fun K => excCB K "NoStep",
  fun K => decide (PySem.W.exmOne K (.ref (He.ga K "NoStep")) (.ref (He.ga K "ChoosersError")) = some true),
  fun K => decide (PySem.W.kitOne K (.ref (He.ga K "NoStep")) (.ref (He.ga K "EditFailed")) = some false),
  fun K => decide (PySem.W.kitOne K (.ref (He.ga K "NoStep")) (.ref (He.ga K "NoStep")) = some true),
  fun K => decide (PySem.W.kitOne K (.ref (He.ga K "NoStep")) (.ref (He.ga K "OutOfRange")) = some false),
  fun K => excCB K "EditFailed",
  fun K => decide (PySem.W.exmOne K (.ref (He.ga K "EditFailed")) (.ref (He.ga K "ChoosersError")) = some true),
  fun K => decide (PySem.W.kitOne K (.ref (He.ga K "EditFailed")) (.ref (He.ga K "EditFailed")) = some true),
  fun K => decide (PySem.W.kitOne K (.ref (He.ga K "EditFailed")) (.ref (He.ga K "NoStep")) = some false),
  fun K => decide (PySem.W.kitOne K (.ref (He.ga K "EditFailed")) (.ref (He.ga K "OutOfRange")) = some false)]
abbrev TT (K : PySem.W.Frag) (mg : Str → Option Value) : Prop := TF fx fn K mg
section
variable {K : PySem.W.Frag} {mg : Str → Option Value} (T : TT K mg)
include T
theorem m_TypeError : mg "TypeError" = none := T.free (T.fact 0 (f := fun K => (He.Fa.free "TypeError").ok K) rfl)
theorem m_ValueError : mg "ValueError" = none := T.free (T.fact 1 (f := fun K => (He.Fa.free "ValueError").ok K) rfl)
theorem m_all : mg "all" = none := T.free (T.fact 2 (f := fun K => (He.Fa.free "all").ok K) rfl)
theorem m_any : mg "any" = none := T.free (T.fact 3 (f := fun K => (He.Fa.free "any").ok K) rfl)
theorem m_bool : mg "bool" = none := T.free (T.fact 4 (f := fun K => (He.Fa.free "bool").ok K) rfl)
theorem m_dict : mg "dict" = none := T.free (T.fact 5 (f := fun K => (He.Fa.free "dict").ok K) rfl)
theorem m_int : mg "int" = none := T.free (T.fact 6 (f := fun K => (He.Fa.free "int").ok K) rfl)
theorem m_isinstance : mg "isinstance" = none := T.free (T.fact 7 (f := fun K => (He.Fa.free "isinstance").ok K) rfl)
theorem m_len : mg "len" = none := T.free (T.fact 8 (f := fun K => (He.Fa.free "len").ok K) rfl)
theorem m_list : mg "list" = none := T.free (T.fact 9 (f := fun K => (He.Fa.free "list").ok K) rfl)
theorem m_max : mg "max" = none := T.free (T.fact 10 (f := fun K => (He.Fa.free "max").ok K) rfl)
theorem m_min : mg "min" = none := T.free (T.fact 11 (f := fun K => (He.Fa.free "min").ok K) rfl)
theorem m_range : mg "range" = none := T.free (T.fact 12 (f := fun K => (He.Fa.free "range").ok K) rfl)
theorem m_set : mg "set" = none := T.free (T.fact 13 (f := fun K => (He.Fa.free "set").ok K) rfl)
theorem m_sorted : mg "sorted" = none := T.free (T.fact 14 (f := fun K => (He.Fa.free "sorted").ok K) rfl)
theorem m_str : mg "str" = none := T.free (T.fact 15 (f := fun K => (He.Fa.free "str").ok K) rfl)
theorem m_sum : mg "sum" = none := T.free (T.fact 16 (f := fun K => (He.Fa.free "sum").ok K) rfl)
theorem m_tuple : mg "tuple" = none := T.free (T.fact 17 (f := fun K => (He.Fa.free "tuple").ok K) rfl)
theorem g_is_word : mg "is_word" = some (.ref (He.ga K "is_word")) := T.glo (T.fact 18 (f := fun K => (He.Fa.glo "is_word").ok K) rfl)
theorem g_is_number : mg "is_number" = some (.ref (He.ga K "is_number")) := T.glo (T.fact 19 (f := fun K => (He.Fa.glo "is_number").ok K) rfl)
theorem g_write_part : mg "write_part" = some (.ref (He.ga K "write_part")) := T.glo (T.fact 20 (f := fun K => (He.Fa.glo "write_part").ok K) rfl)
theorem g_write_term : mg "write_term" = some (.ref (He.ga K "write_term")) := T.glo (T.fact 21 (f := fun K => (He.Fa.glo "write_term").ok K) rfl)
theorem g_is_use : mg "is_use" = some (.ref (He.ga K "is_use")) := T.glo (T.fact 22 (f := fun K => (He.Fa.glo "is_use").ok K) rfl)
theorem g_nesting : mg "nesting" = some (.ref (He.ga K "nesting")) := T.glo (T.fact 23 (f := fun K => (He.Fa.glo "nesting").ok K) rfl)
theorem g_put_paper : mg "put_paper" = some (.ref (He.ga K "put_paper")) := T.glo (T.fact 24 (f := fun K => (He.Fa.glo "put_paper").ok K) rfl)
theorem g_drop_paper : mg "drop_paper" = some (.ref (He.ga K "drop_paper")) := T.glo (T.fact 25 (f := fun K => (He.Fa.glo "drop_paper").ok K) rfl)
theorem g_replace_name : mg "replace_name" = some (.ref (He.ga K "replace_name")) := T.glo (T.fact 26 (f := fun K => (He.Fa.glo "replace_name").ok K) rfl)
theorem g_rename_paper : mg "rename_paper" = some (.ref (He.ga K "rename_paper")) := T.glo (T.fact 27 (f := fun K => (He.Fa.glo "rename_paper").ok K) rfl)
theorem g_edited : mg "edited" = some (.ref (He.ga K "edited")) := T.glo (T.fact 28 (f := fun K => (He.Fa.glo "edited").ok K) rfl)
theorem g__law_start : mg "_law_start" = some (.ref (He.ga K "_law_start")) := T.glo (T.fact 29 (f := fun K => (He.Fa.glo "_law_start").ok K) rfl)
theorem g__law_pick : mg "_law_pick" = some (.ref (He.ga K "_law_pick")) := T.glo (T.fact 30 (f := fun K => (He.Fa.glo "_law_pick").ok K) rfl)
theorem g__law_same : mg "_law_same" = some (.ref (He.ga K "_law_same")) := T.glo (T.fact 31 (f := fun K => (He.Fa.glo "_law_same").ok K) rfl)
theorem g__law_names : mg "_law_names" = some (.ref (He.ga K "_law_names")) := T.glo (T.fact 32 (f := fun K => (He.Fa.glo "_law_names").ok K) rfl)
theorem g__law_pool : mg "_law_pool" = some (.ref (He.ga K "_law_pool")) := T.glo (T.fact 33 (f := fun K => (He.Fa.glo "_law_pool").ok K) rfl)
theorem g__law_small_term : mg "_law_small_term" = some (.ref (He.ga K "_law_small_term")) := T.glo (T.fact 34 (f := fun K => (He.Fa.glo "_law_small_term").ok K) rfl)
theorem g__law_edit : mg "_law_edit" = some (.ref (He.ga K "_law_edit")) := T.glo (T.fact 35 (f := fun K => (He.Fa.glo "_law_edit").ok K) rfl)
theorem g__law_opening : mg "_law_opening" = some (.ref (He.ga K "_law_opening")) := T.glo (T.fact 36 (f := fun K => (He.Fa.glo "_law_opening").ok K) rfl)
theorem g__law_deeds : mg "_law_deeds" = some (.ref (He.ga K "_law_deeds")) := T.glo (T.fact 37 (f := fun K => (He.Fa.glo "_law_deeds").ok K) rfl)
theorem g__law_reason : mg "_law_reason" = some (.ref (He.ga K "_law_reason")) := T.glo (T.fact 38 (f := fun K => (He.Fa.glo "_law_reason").ok K) rfl)
theorem g__law_renamed : mg "_law_renamed" = some (.ref (He.ga K "_law_renamed")) := T.glo (T.fact 39 (f := fun K => (He.Fa.glo "_law_renamed").ok K) rfl)
theorem g__law_edited : mg "_law_edited" = some (.ref (He.ga K "_law_edited")) := T.glo (T.fact 40 (f := fun K => (He.Fa.glo "_law_edited").ok K) rfl)
theorem g__law_step : mg "_law_step" = some (.ref (He.ga K "_law_step")) := T.glo (T.fact 41 (f := fun K => (He.Fa.glo "_law_step").ok K) rfl)
theorem g__law_run_due : mg "_law_run_due" = some (.ref (He.ga K "_law_run_due")) := T.glo (T.fact 42 (f := fun K => (He.Fa.glo "_law_run_due").ok K) rfl)
theorem g__law_due : mg "_law_due" = some (.ref (He.ga K "_law_due")) := T.glo (T.fact 43 (f := fun K => (He.Fa.glo "_law_due").ok K) rfl)
theorem g__law_run_told : mg "_law_run_told" = some (.ref (He.ga K "_law_run_told")) := T.glo (T.fact 44 (f := fun K => (He.Fa.glo "_law_run_told").ok K) rfl)
theorem g__law_edit_told : mg "_law_edit_told" = some (.ref (He.ga K "_law_edit_told")) := T.glo (T.fact 45 (f := fun K => (He.Fa.glo "_law_edit_told").ok K) rfl)
theorem g__law_told : mg "_law_told" = some (.ref (He.ga K "_law_told")) := T.glo (T.fact 46 (f := fun K => (He.Fa.glo "_law_told").ok K) rfl)
theorem g__law_stands : mg "_law_stands" = some (.ref (He.ga K "_law_stands")) := T.glo (T.fact 47 (f := fun K => (He.Fa.glo "_law_stands").ok K) rfl)
theorem g__law_walked : mg "_law_walked" = some (.ref (He.ga K "_law_walked")) := T.glo (T.fact 48 (f := fun K => (He.Fa.glo "_law_walked").ok K) rfl)
theorem g__law_nine : mg "_law_nine" = some (.ref (He.ga K "_law_nine")) := T.glo (T.fact 49 (f := fun K => (He.Fa.glo "_law_nine").ok K) rfl)
theorem g__law_hundred : mg "_law_hundred" = some (.ref (He.ga K "_law_hundred")) := T.glo (T.fact 50 (f := fun K => (He.Fa.glo "_law_hundred").ok K) rfl)
theorem g_law : mg "law" = some (.ref (He.ga K "law")) := T.glo (T.fact 51 (f := fun K => (He.Fa.glo "law").ok K) rfl)
theorem c_LETTERS : ∃ t, mg "LETTERS" = some (.str c_LETTERS_v t) := T.str (T.fact 52 (f := fun K => (He.Fa.str "LETTERS" c_LETTERS_v).ok K) rfl)
theorem c_DIGITS : ∃ t, mg "DIGITS" = some (.str c_DIGITS_v t) := T.str (T.fact 53 (f := fun K => (He.Fa.str "DIGITS" c_DIGITS_v).ok K) rfl)
theorem c_MOST_LETTERS : ∃ t, mg "MOST_LETTERS" = some (.int 12 t) := T.int (T.fact 54 (f := fun K => (He.Fa.int "MOST_LETTERS" 12).ok K) rfl)
theorem c_MOST_DIGITS : ∃ t, mg "MOST_DIGITS" = some (.int 9 t) := T.int (T.fact 55 (f := fun K => (He.Fa.int "MOST_DIGITS" 9).ok K) rfl)
theorem c_MOST_NUMBER : ∃ t, mg "MOST_NUMBER" = some (.int 999999999 t) := T.int (T.fact 56 (f := fun K => (He.Fa.int "MOST_NUMBER" 999999999).ok K) rfl)
theorem c_MOST_DEPTH : ∃ t, mg "MOST_DEPTH" = some (.int 30 t) := T.int (T.fact 57 (f := fun K => (He.Fa.int "MOST_DEPTH" 30).ok K) rfl)
theorem g_KINDS : mg "KINDS" = some (.ref (He.ga K "KINDS")) := T.glo (Bool.and_eq_true_iff.mp (T.fact 58 (f := fun K => (He.Fa.glo "KINDS").ok K && He.tupB K "KINDS" [.str "aim", .str "tree"]) rfl)).1
theorem tp_KINDS (H : Hp) : SqT K H (He.ga K "KINDS") [.str "aim", .str "tree"] := He.tupB_ok (Bool.and_eq_true_iff.mp (T.fact 58 (f := fun K => (He.Fa.glo "KINDS").ok K && He.tupB K "KINDS" [.str "aim", .str "tree"]) rfl)).2 H
theorem c_MOST_PAPERS : ∃ t, mg "MOST_PAPERS" = some (.int 20 t) := T.int (T.fact 59 (f := fun K => (He.Fa.int "MOST_PAPERS" 20).ok K) rfl)
theorem c_MOST_NESTING : ∃ t, mg "MOST_NESTING" = some (.int 20 t) := T.int (T.fact 60 (f := fun K => (He.Fa.int "MOST_NESTING" 20).ok K) rfl)
theorem c_FIRST_LIMIT : ∃ t, mg "FIRST_LIMIT" = some (.int 20 t) := T.int (T.fact 61 (f := fun K => (He.Fa.int "FIRST_LIMIT" 20).ok K) rfl)
theorem c_MOST_STEPS : ∃ t, mg "MOST_STEPS" = some (.int 100 t) := T.int (T.fact 62 (f := fun K => (He.Fa.int "MOST_STEPS" 100).ok K) rfl)
theorem g_ChoosersError : mg "ChoosersError" = some (.ref (He.ga K "ChoosersError")) := T.glo (T.fact 63 (f := fun K => (He.Fa.glo "ChoosersError").ok K) rfl)
theorem g_Desk : mg "Desk" = some (.ref (He.ga K "Desk")) := T.glo (T.fact 64 (f := fun K => (He.Fa.glo "Desk").ok K) rfl)
theorem g_EditFailed : mg "EditFailed" = some (.ref (He.ga K "EditFailed")) := T.glo (T.fact 65 (f := fun K => (He.Fa.glo "EditFailed").ok K) rfl)
theorem g_InvalidName : mg "InvalidName" = some (.ref (He.ga K "InvalidName")) := T.glo (T.fact 66 (f := fun K => (He.Fa.glo "InvalidName").ok K) rfl)
theorem g_InvalidTerm : mg "InvalidTerm" = some (.ref (He.ga K "InvalidTerm")) := T.glo (T.fact 67 (f := fun K => (He.Fa.glo "InvalidTerm").ok K) rfl)
theorem g_NameTaken : mg "NameTaken" = some (.ref (He.ga K "NameTaken")) := T.glo (T.fact 68 (f := fun K => (He.Fa.glo "NameTaken").ok K) rfl)
theorem g_NoStep : mg "NoStep" = some (.ref (He.ga K "NoStep")) := T.glo (T.fact 69 (f := fun K => (He.Fa.glo "NoStep").ok K) rfl)
theorem g_OutOfRange : mg "OutOfRange" = some (.ref (He.ga K "OutOfRange")) := T.glo (T.fact 70 (f := fun K => (He.Fa.glo "OutOfRange").ok K) rfl)
theorem g_TooLarge : mg "TooLarge" = some (.ref (He.ga K "TooLarge")) := T.glo (T.fact 71 (f := fun K => (He.Fa.glo "TooLarge").ok K) rfl)
theorem g_UnknownName : mg "UnknownName" = some (.ref (He.ga K "UnknownName")) := T.glo (T.fact 72 (f := fun K => (He.Fa.glo "UnknownName").ok K) rfl)
theorem cl_Desk : Cls K (He.ga K "Desk") := He.cls_ok (T.fact 73 (f := fun K => (He.Fa.cls "Desk").ok K) rfl)
theorem M_Desk : Mk K (He.ga K "Desk") (He.ma K (He.ga K "Desk") "__init__") := He.mkr_ok (T.fact 74 (f := fun K => (He.Fa.mkr "Desk").ok K) rfl)
theorem na_Desk_outcomes : NoAttr K (He.ga K "Desk") "outcomes" := He.noat_ok (T.fact 75 (f := fun K => (He.Fa.noat "Desk" "outcomes").ok K) rfl)
theorem na_Desk__papers : NoAttr K (He.ga K "Desk") "_papers" := He.noat_ok (T.fact 76 (f := fun K => (He.Fa.noat "Desk" "_papers").ok K) rfl)
theorem na_Desk__done : NoAttr K (He.ga K "Desk") "_done" := He.noat_ok (T.fact 77 (f := fun K => (He.Fa.noat "Desk" "_done").ok K) rfl)
theorem na_Desk__undone : NoAttr K (He.ga K "Desk") "_undone" := He.noat_ok (T.fact 78 (f := fun K => (He.Fa.noat "Desk" "_undone").ok K) rfl)
theorem na_Desk__limit : NoAttr K (He.ga K "Desk") "_limit" := He.noat_ok (T.fact 79 (f := fun K => (He.Fa.noat "Desk" "_limit").ok K) rfl)
theorem mt_Desk_keep : Meth K (He.ga K "Desk") "keep" (He.ma K (He.ga K "Desk") "keep") := He.meth_ok (T.fact 80 (f := fun K => (He.Fa.meth "Desk" "keep").ok K) rfl)
theorem mt_Desk_kind_of : Meth K (He.ga K "Desk") "kind_of" (He.ma K (He.ga K "Desk") "kind_of") := He.meth_ok (T.fact 81 (f := fun K => (He.Fa.meth "Desk" "kind_of").ok K) rfl)
theorem mt_Desk_term_of : Meth K (He.ga K "Desk") "term_of" (He.ma K (He.ga K "Desk") "term_of") := He.meth_ok (T.fact 82 (f := fun K => (He.Fa.meth "Desk" "term_of").ok K) rfl)
theorem mt_Desk__paper : Meth K (He.ga K "Desk") "_paper" (He.ma K (He.ga K "Desk") "_paper") := He.meth_ok (T.fact 83 (f := fun K => (He.Fa.meth "Desk" "_paper").ok K) rfl)
theorem mt_Desk__take_step : Meth K (He.ga K "Desk") "_take_step" (He.ma K (He.ga K "Desk") "_take_step") := He.meth_ok (T.fact 84 (f := fun K => (He.Fa.meth "Desk" "_take_step").ok K) rfl)
theorem mt_Desk_put : Meth K (He.ga K "Desk") "put" (He.ma K (He.ga K "Desk") "put") := He.meth_ok (T.fact 85 (f := fun K => (He.Fa.meth "Desk" "put").ok K) rfl)
theorem mt_Desk_drop : Meth K (He.ga K "Desk") "drop" (He.ma K (He.ga K "Desk") "drop") := He.meth_ok (T.fact 86 (f := fun K => (He.Fa.meth "Desk" "drop").ok K) rfl)
theorem mt_Desk_rename : Meth K (He.ga K "Desk") "rename" (He.ma K (He.ga K "Desk") "rename") := He.meth_ok (T.fact 87 (f := fun K => (He.Fa.meth "Desk" "rename").ok K) rfl)
theorem mt_Desk_run : Meth K (He.ga K "Desk") "run" (He.ma K (He.ga K "Desk") "run") := He.meth_ok (T.fact 88 (f := fun K => (He.Fa.meth "Desk" "run").ok K) rfl)
theorem mt_Desk_undo : Meth K (He.ga K "Desk") "undo" (He.ma K (He.ga K "Desk") "undo") := He.meth_ok (T.fact 89 (f := fun K => (He.Fa.meth "Desk" "undo").ok K) rfl)
theorem mt_Desk_redo : Meth K (He.ga K "Desk") "redo" (He.ma K (He.ga K "Desk") "redo") := He.meth_ok (T.fact 90 (f := fun K => (He.Fa.meth "Desk" "redo").ok K) rfl)
theorem oxb_ChoosersError : (oxnB K "ChoosersError") = true := T.fact 91 (f := fun K => oxnB K "ChoosersError") rfl
theorem oxf_InvalidTerm : (oexF K "InvalidTerm" "path") = true := T.fact 92 (f := fun K => oexF K "InvalidTerm" "path") rfl
theorem oxb_OutOfRange : (oxnB K "OutOfRange") = true := T.fact 93 (f := fun K => oxnB K "OutOfRange") rfl
theorem oxb_TooLarge : (oxnB K "TooLarge") = true := T.fact 94 (f := fun K => oxnB K "TooLarge") rfl
theorem oxb_InvalidName : (oxnB K "InvalidName") = true := T.fact 95 (f := fun K => oxnB K "InvalidName") rfl
theorem oxf_UnknownName : (oexF K "UnknownName" "name") = true := T.fact 96 (f := fun K => oexF K "UnknownName" "name") rfl
theorem oxf_NameTaken : (oexF K "NameTaken" "name") = true := T.fact 97 (f := fun K => oexF K "NameTaken" "name") rfl
theorem oxb_NoStep : (oxnB K "NoStep") = true := T.fact 98 (f := fun K => oxnB K "NoStep") rfl
theorem oxf_EditFailed : (oexF K "EditFailed" "index") = true := T.fact 99 (f := fun K => oexF K "EditFailed" "index") rfl
theorem prb_Desk_names : (prpB K "Desk" "names") = true := T.fact 100 (f := fun K => prpB K "Desk" "names") rfl
theorem prb_Desk_steps : (prpB K "Desk" "steps") = true := T.fact 101 (f := fun K => prpB K "Desk" "steps") rfl
theorem prb_Desk_undone : (prpB K "Desk" "undone") = true := T.fact 102 (f := fun K => prpB K "Desk" "undone") rfl
theorem prb_Desk_limit : (prpB K "Desk" "limit") = true := T.fact 103 (f := fun K => prpB K "Desk" "limit") rfl
theorem prs_Desk_limit : (prsB K "Desk" "limit") = true := T.fact 104 (f := fun K => prsB K "Desk" "limit") rfl
theorem xc_InvalidTerm : (excCB K "InvalidTerm") = true := T.fact 105 (f := fun K => excCB K "InvalidTerm") rfl
theorem xm_InvalidTerm : (decide (PySem.W.exmOne K (.ref (He.ga K "InvalidTerm")) (.ref (He.ga K "ChoosersError")) = some true)) = true := T.fact 106 (f := fun K => decide (PySem.W.exmOne K (.ref (He.ga K "InvalidTerm")) (.ref (He.ga K "ChoosersError")) = some true)) rfl
theorem ki_InvalidTerm_EditFailed : (decide (PySem.W.kitOne K (.ref (He.ga K "InvalidTerm")) (.ref (He.ga K "EditFailed")) = some false)) = true := T.fact 107 (f := fun K => decide (PySem.W.kitOne K (.ref (He.ga K "InvalidTerm")) (.ref (He.ga K "EditFailed")) = some false)) rfl
theorem ki_InvalidTerm_NoStep : (decide (PySem.W.kitOne K (.ref (He.ga K "InvalidTerm")) (.ref (He.ga K "NoStep")) = some false)) = true := T.fact 108 (f := fun K => decide (PySem.W.kitOne K (.ref (He.ga K "InvalidTerm")) (.ref (He.ga K "NoStep")) = some false)) rfl
theorem ki_InvalidTerm_OutOfRange : (decide (PySem.W.kitOne K (.ref (He.ga K "InvalidTerm")) (.ref (He.ga K "OutOfRange")) = some false)) = true := T.fact 109 (f := fun K => decide (PySem.W.kitOne K (.ref (He.ga K "InvalidTerm")) (.ref (He.ga K "OutOfRange")) = some false)) rfl
theorem xc_OutOfRange : (excCB K "OutOfRange") = true := T.fact 110 (f := fun K => excCB K "OutOfRange") rfl
theorem xm_OutOfRange : (decide (PySem.W.exmOne K (.ref (He.ga K "OutOfRange")) (.ref (He.ga K "ChoosersError")) = some true)) = true := T.fact 111 (f := fun K => decide (PySem.W.exmOne K (.ref (He.ga K "OutOfRange")) (.ref (He.ga K "ChoosersError")) = some true)) rfl
theorem ki_OutOfRange_EditFailed : (decide (PySem.W.kitOne K (.ref (He.ga K "OutOfRange")) (.ref (He.ga K "EditFailed")) = some false)) = true := T.fact 112 (f := fun K => decide (PySem.W.kitOne K (.ref (He.ga K "OutOfRange")) (.ref (He.ga K "EditFailed")) = some false)) rfl
theorem ki_OutOfRange_NoStep : (decide (PySem.W.kitOne K (.ref (He.ga K "OutOfRange")) (.ref (He.ga K "NoStep")) = some false)) = true := T.fact 113 (f := fun K => decide (PySem.W.kitOne K (.ref (He.ga K "OutOfRange")) (.ref (He.ga K "NoStep")) = some false)) rfl
theorem ki_OutOfRange_OutOfRange : (decide (PySem.W.kitOne K (.ref (He.ga K "OutOfRange")) (.ref (He.ga K "OutOfRange")) = some true)) = true := T.fact 114 (f := fun K => decide (PySem.W.kitOne K (.ref (He.ga K "OutOfRange")) (.ref (He.ga K "OutOfRange")) = some true)) rfl
theorem xc_InvalidName : (excCB K "InvalidName") = true := T.fact 115 (f := fun K => excCB K "InvalidName") rfl
theorem xm_InvalidName : (decide (PySem.W.exmOne K (.ref (He.ga K "InvalidName")) (.ref (He.ga K "ChoosersError")) = some true)) = true := T.fact 116 (f := fun K => decide (PySem.W.exmOne K (.ref (He.ga K "InvalidName")) (.ref (He.ga K "ChoosersError")) = some true)) rfl
theorem ki_InvalidName_EditFailed : (decide (PySem.W.kitOne K (.ref (He.ga K "InvalidName")) (.ref (He.ga K "EditFailed")) = some false)) = true := T.fact 117 (f := fun K => decide (PySem.W.kitOne K (.ref (He.ga K "InvalidName")) (.ref (He.ga K "EditFailed")) = some false)) rfl
theorem ki_InvalidName_NoStep : (decide (PySem.W.kitOne K (.ref (He.ga K "InvalidName")) (.ref (He.ga K "NoStep")) = some false)) = true := T.fact 118 (f := fun K => decide (PySem.W.kitOne K (.ref (He.ga K "InvalidName")) (.ref (He.ga K "NoStep")) = some false)) rfl
theorem ki_InvalidName_OutOfRange : (decide (PySem.W.kitOne K (.ref (He.ga K "InvalidName")) (.ref (He.ga K "OutOfRange")) = some false)) = true := T.fact 119 (f := fun K => decide (PySem.W.kitOne K (.ref (He.ga K "InvalidName")) (.ref (He.ga K "OutOfRange")) = some false)) rfl
theorem xc_UnknownName : (excCB K "UnknownName") = true := T.fact 120 (f := fun K => excCB K "UnknownName") rfl
theorem xm_UnknownName : (decide (PySem.W.exmOne K (.ref (He.ga K "UnknownName")) (.ref (He.ga K "ChoosersError")) = some true)) = true := T.fact 121 (f := fun K => decide (PySem.W.exmOne K (.ref (He.ga K "UnknownName")) (.ref (He.ga K "ChoosersError")) = some true)) rfl
theorem ki_UnknownName_EditFailed : (decide (PySem.W.kitOne K (.ref (He.ga K "UnknownName")) (.ref (He.ga K "EditFailed")) = some false)) = true := T.fact 122 (f := fun K => decide (PySem.W.kitOne K (.ref (He.ga K "UnknownName")) (.ref (He.ga K "EditFailed")) = some false)) rfl
theorem ki_UnknownName_NoStep : (decide (PySem.W.kitOne K (.ref (He.ga K "UnknownName")) (.ref (He.ga K "NoStep")) = some false)) = true := T.fact 123 (f := fun K => decide (PySem.W.kitOne K (.ref (He.ga K "UnknownName")) (.ref (He.ga K "NoStep")) = some false)) rfl
theorem ki_UnknownName_OutOfRange : (decide (PySem.W.kitOne K (.ref (He.ga K "UnknownName")) (.ref (He.ga K "OutOfRange")) = some false)) = true := T.fact 124 (f := fun K => decide (PySem.W.kitOne K (.ref (He.ga K "UnknownName")) (.ref (He.ga K "OutOfRange")) = some false)) rfl
theorem xc_NameTaken : (excCB K "NameTaken") = true := T.fact 125 (f := fun K => excCB K "NameTaken") rfl
theorem xm_NameTaken : (decide (PySem.W.exmOne K (.ref (He.ga K "NameTaken")) (.ref (He.ga K "ChoosersError")) = some true)) = true := T.fact 126 (f := fun K => decide (PySem.W.exmOne K (.ref (He.ga K "NameTaken")) (.ref (He.ga K "ChoosersError")) = some true)) rfl
theorem ki_NameTaken_EditFailed : (decide (PySem.W.kitOne K (.ref (He.ga K "NameTaken")) (.ref (He.ga K "EditFailed")) = some false)) = true := T.fact 127 (f := fun K => decide (PySem.W.kitOne K (.ref (He.ga K "NameTaken")) (.ref (He.ga K "EditFailed")) = some false)) rfl
theorem ki_NameTaken_NoStep : (decide (PySem.W.kitOne K (.ref (He.ga K "NameTaken")) (.ref (He.ga K "NoStep")) = some false)) = true := T.fact 128 (f := fun K => decide (PySem.W.kitOne K (.ref (He.ga K "NameTaken")) (.ref (He.ga K "NoStep")) = some false)) rfl
theorem ki_NameTaken_OutOfRange : (decide (PySem.W.kitOne K (.ref (He.ga K "NameTaken")) (.ref (He.ga K "OutOfRange")) = some false)) = true := T.fact 129 (f := fun K => decide (PySem.W.kitOne K (.ref (He.ga K "NameTaken")) (.ref (He.ga K "OutOfRange")) = some false)) rfl
theorem xc_NoStep : (excCB K "NoStep") = true := T.fact 130 (f := fun K => excCB K "NoStep") rfl
theorem xm_NoStep : (decide (PySem.W.exmOne K (.ref (He.ga K "NoStep")) (.ref (He.ga K "ChoosersError")) = some true)) = true := T.fact 131 (f := fun K => decide (PySem.W.exmOne K (.ref (He.ga K "NoStep")) (.ref (He.ga K "ChoosersError")) = some true)) rfl
theorem ki_NoStep_EditFailed : (decide (PySem.W.kitOne K (.ref (He.ga K "NoStep")) (.ref (He.ga K "EditFailed")) = some false)) = true := T.fact 132 (f := fun K => decide (PySem.W.kitOne K (.ref (He.ga K "NoStep")) (.ref (He.ga K "EditFailed")) = some false)) rfl
theorem ki_NoStep_NoStep : (decide (PySem.W.kitOne K (.ref (He.ga K "NoStep")) (.ref (He.ga K "NoStep")) = some true)) = true := T.fact 133 (f := fun K => decide (PySem.W.kitOne K (.ref (He.ga K "NoStep")) (.ref (He.ga K "NoStep")) = some true)) rfl
theorem ki_NoStep_OutOfRange : (decide (PySem.W.kitOne K (.ref (He.ga K "NoStep")) (.ref (He.ga K "OutOfRange")) = some false)) = true := T.fact 134 (f := fun K => decide (PySem.W.kitOne K (.ref (He.ga K "NoStep")) (.ref (He.ga K "OutOfRange")) = some false)) rfl
theorem xc_EditFailed : (excCB K "EditFailed") = true := T.fact 135 (f := fun K => excCB K "EditFailed") rfl
theorem xm_EditFailed : (decide (PySem.W.exmOne K (.ref (He.ga K "EditFailed")) (.ref (He.ga K "ChoosersError")) = some true)) = true := T.fact 136 (f := fun K => decide (PySem.W.exmOne K (.ref (He.ga K "EditFailed")) (.ref (He.ga K "ChoosersError")) = some true)) rfl
theorem ki_EditFailed_EditFailed : (decide (PySem.W.kitOne K (.ref (He.ga K "EditFailed")) (.ref (He.ga K "EditFailed")) = some true)) = true := T.fact 137 (f := fun K => decide (PySem.W.kitOne K (.ref (He.ga K "EditFailed")) (.ref (He.ga K "EditFailed")) = some true)) rfl
theorem ki_EditFailed_NoStep : (decide (PySem.W.kitOne K (.ref (He.ga K "EditFailed")) (.ref (He.ga K "NoStep")) = some false)) = true := T.fact 138 (f := fun K => decide (PySem.W.kitOne K (.ref (He.ga K "EditFailed")) (.ref (He.ga K "NoStep")) = some false)) rfl
theorem ki_EditFailed_OutOfRange : (decide (PySem.W.kitOne K (.ref (He.ga K "EditFailed")) (.ref (He.ga K "OutOfRange")) = some false)) = true := T.fact 139 (f := fun K => decide (PySem.W.kitOne K (.ref (He.ga K "EditFailed")) (.ref (He.ga K "OutOfRange")) = some false)) rfl
theorem fun_InvalidTerm___init__ : ∃ fd, FunD K "__init__" q_InvalidTerm___init__ (defArgs s_InvalidTerm___init__) (defBody s_InvalidTerm___init__) (defScope s_InvalidTerm___init__) [] [] (He.ma K (He.ga K "InvalidTerm") "__init__") fd := T.fun_ 0 (d := ⟨fun K => He.ma K (He.ga K "InvalidTerm") "__init__", "__init__", q_InvalidTerm___init__, s_InvalidTerm___init__, [], []⟩) rfl
theorem fun_UnknownName___init__ : ∃ fd, FunD K "__init__" q_UnknownName___init__ (defArgs s_UnknownName___init__) (defBody s_UnknownName___init__) (defScope s_UnknownName___init__) [] [] (He.ma K (He.ga K "UnknownName") "__init__") fd := T.fun_ 1 (d := ⟨fun K => He.ma K (He.ga K "UnknownName") "__init__", "__init__", q_UnknownName___init__, s_UnknownName___init__, [], []⟩) rfl
theorem fun_NameTaken___init__ : ∃ fd, FunD K "__init__" q_NameTaken___init__ (defArgs s_NameTaken___init__) (defBody s_NameTaken___init__) (defScope s_NameTaken___init__) [] [] (He.ma K (He.ga K "NameTaken") "__init__") fd := T.fun_ 2 (d := ⟨fun K => He.ma K (He.ga K "NameTaken") "__init__", "__init__", q_NameTaken___init__, s_NameTaken___init__, [], []⟩) rfl
theorem fun_EditFailed___init__ : ∃ fd, FunD K "__init__" q_EditFailed___init__ (defArgs s_EditFailed___init__) (defBody s_EditFailed___init__) (defScope s_EditFailed___init__) [] [] (He.ma K (He.ga K "EditFailed") "__init__") fd := T.fun_ 3 (d := ⟨fun K => He.ma K (He.ga K "EditFailed") "__init__", "__init__", q_EditFailed___init__, s_EditFailed___init__, [], []⟩) rfl
theorem fun_is_word : ∃ fd, FunD K "is_word" q_is_word (defArgs s_is_word) (defBody s_is_word) (defScope s_is_word) [] [] (He.ga K "is_word") fd := T.fun_ 4 (d := ⟨fun K => He.ga K "is_word", "is_word", q_is_word, s_is_word, [], []⟩) rfl
theorem kp_is_word : PySem.W.keepIn K (.ref (He.ga K "is_word")) = true := (fun_is_word T).elim fun _ F => F.kp
theorem fun_is_number : ∃ fd, FunD K "is_number" q_is_number (defArgs s_is_number) (defBody s_is_number) (defScope s_is_number) [] [] (He.ga K "is_number") fd := T.fun_ 5 (d := ⟨fun K => He.ga K "is_number", "is_number", q_is_number, s_is_number, [], []⟩) rfl
theorem kp_is_number : PySem.W.keepIn K (.ref (He.ga K "is_number")) = true := (fun_is_number T).elim fun _ F => F.kp
theorem fun_write_part : ∃ fd, FunD K "write_part" q_write_part (defArgs s_write_part) (defBody s_write_part) (defScope s_write_part) [] [] (He.ga K "write_part") fd := T.fun_ 6 (d := ⟨fun K => He.ga K "write_part", "write_part", q_write_part, s_write_part, [], []⟩) rfl
theorem kp_write_part : PySem.W.keepIn K (.ref (He.ga K "write_part")) = true := (fun_write_part T).elim fun _ F => F.kp
theorem fun_write_term : ∃ fd, FunD K "write_term" q_write_term (defArgs s_write_term) (defBody s_write_term) (defScope s_write_term) [] [] (He.ga K "write_term") fd := T.fun_ 7 (d := ⟨fun K => He.ga K "write_term", "write_term", q_write_term, s_write_term, [], []⟩) rfl
theorem kp_write_term : PySem.W.keepIn K (.ref (He.ga K "write_term")) = true := (fun_write_term T).elim fun _ F => F.kp
theorem fun_is_use : ∃ fd, FunD K "is_use" q_is_use (defArgs s_is_use) (defBody s_is_use) (defScope s_is_use) [] [] (He.ga K "is_use") fd := T.fun_ 8 (d := ⟨fun K => He.ga K "is_use", "is_use", q_is_use, s_is_use, [], []⟩) rfl
theorem kp_is_use : PySem.W.keepIn K (.ref (He.ga K "is_use")) = true := (fun_is_use T).elim fun _ F => F.kp
theorem fun_nesting : ∃ fd, FunD K "nesting" q_nesting (defArgs s_nesting) (defBody s_nesting) (defScope s_nesting) [] [] (He.ga K "nesting") fd := T.fun_ 9 (d := ⟨fun K => He.ga K "nesting", "nesting", q_nesting, s_nesting, [], []⟩) rfl
theorem kp_nesting : PySem.W.keepIn K (.ref (He.ga K "nesting")) = true := (fun_nesting T).elim fun _ F => F.kp
theorem fun_put_paper : ∃ fd, FunD K "put_paper" q_put_paper (defArgs s_put_paper) (defBody s_put_paper) (defScope s_put_paper) [] [] (He.ga K "put_paper") fd := T.fun_ 10 (d := ⟨fun K => He.ga K "put_paper", "put_paper", q_put_paper, s_put_paper, [], []⟩) rfl
theorem kp_put_paper : PySem.W.keepIn K (.ref (He.ga K "put_paper")) = true := (fun_put_paper T).elim fun _ F => F.kp
theorem fun_drop_paper : ∃ fd, FunD K "drop_paper" q_drop_paper (defArgs s_drop_paper) (defBody s_drop_paper) (defScope s_drop_paper) [] [] (He.ga K "drop_paper") fd := T.fun_ 11 (d := ⟨fun K => He.ga K "drop_paper", "drop_paper", q_drop_paper, s_drop_paper, [], []⟩) rfl
theorem kp_drop_paper : PySem.W.keepIn K (.ref (He.ga K "drop_paper")) = true := (fun_drop_paper T).elim fun _ F => F.kp
theorem fun_replace_name : ∃ fd, FunD K "replace_name" q_replace_name (defArgs s_replace_name) (defBody s_replace_name) (defScope s_replace_name) [] [] (He.ga K "replace_name") fd := T.fun_ 12 (d := ⟨fun K => He.ga K "replace_name", "replace_name", q_replace_name, s_replace_name, [], []⟩) rfl
theorem kp_replace_name : PySem.W.keepIn K (.ref (He.ga K "replace_name")) = true := (fun_replace_name T).elim fun _ F => F.kp
theorem fun_rename_paper : ∃ fd, FunD K "rename_paper" q_rename_paper (defArgs s_rename_paper) (defBody s_rename_paper) (defScope s_rename_paper) [] [] (He.ga K "rename_paper") fd := T.fun_ 13 (d := ⟨fun K => He.ga K "rename_paper", "rename_paper", q_rename_paper, s_rename_paper, [], []⟩) rfl
theorem kp_rename_paper : PySem.W.keepIn K (.ref (He.ga K "rename_paper")) = true := (fun_rename_paper T).elim fun _ F => F.kp
theorem fun_Desk___init__ : ∃ fd, FunD K "__init__" q_Desk___init__ (defArgs s_Desk___init__) (defBody s_Desk___init__) (defScope s_Desk___init__) [] [] (He.ma K (He.ga K "Desk") "__init__") fd := T.fun_ 14 (d := ⟨fun K => He.ma K (He.ga K "Desk") "__init__", "__init__", q_Desk___init__, s_Desk___init__, [], []⟩) rfl
theorem fun_Desk_names : ∃ fd, FunD K "names" q_Desk_names (defArgs s_Desk_names) (defBody s_Desk_names) (defScope s_Desk_names) [] [] (propB K "Desk" "names" 0) fd := T.fun_ 15 (d := ⟨fun K => propB K "Desk" "names" 0, "names", q_Desk_names, s_Desk_names, [], []⟩) rfl
theorem fun_Desk_steps : ∃ fd, FunD K "steps" q_Desk_steps (defArgs s_Desk_steps) (defBody s_Desk_steps) (defScope s_Desk_steps) [] [] (propB K "Desk" "steps" 0) fd := T.fun_ 16 (d := ⟨fun K => propB K "Desk" "steps" 0, "steps", q_Desk_steps, s_Desk_steps, [], []⟩) rfl
theorem fun_Desk_undone : ∃ fd, FunD K "undone" q_Desk_undone (defArgs s_Desk_undone) (defBody s_Desk_undone) (defScope s_Desk_undone) [] [] (propB K "Desk" "undone" 0) fd := T.fun_ 17 (d := ⟨fun K => propB K "Desk" "undone" 0, "undone", q_Desk_undone, s_Desk_undone, [], []⟩) rfl
theorem fun_Desk_limit : ∃ fd, FunD K "limit" q_Desk_limit (defArgs s_Desk_limit) (defBody s_Desk_limit) (defScope s_Desk_limit) [] [] (propB K "Desk" "limit" 0) fd := T.fun_ 18 (d := ⟨fun K => propB K "Desk" "limit" 0, "limit", q_Desk_limit, s_Desk_limit, [], []⟩) rfl
theorem fun_Desk_limit_set : ∃ fd, FunD K "limit" q_Desk_limit_set (defArgs s_Desk_limit_set) (defBody s_Desk_limit_set) (defScope s_Desk_limit_set) [] [] (propB K "Desk" "limit" 1) fd := T.fun_ 19 (d := ⟨fun K => propB K "Desk" "limit" 1, "limit", q_Desk_limit_set, s_Desk_limit_set, [], []⟩) rfl
theorem fun_Desk_keep : ∃ fd, FunD K "keep" q_Desk_keep (defArgs s_Desk_keep) (defBody s_Desk_keep) (defScope s_Desk_keep) [] [] (He.ma K (He.ga K "Desk") "keep") fd := T.fun_ 20 (d := ⟨fun K => He.ma K (He.ga K "Desk") "keep", "keep", q_Desk_keep, s_Desk_keep, [], []⟩) rfl
theorem fun_Desk_kind_of : ∃ fd, FunD K "kind_of" q_Desk_kind_of (defArgs s_Desk_kind_of) (defBody s_Desk_kind_of) (defScope s_Desk_kind_of) [] [] (He.ma K (He.ga K "Desk") "kind_of") fd := T.fun_ 21 (d := ⟨fun K => He.ma K (He.ga K "Desk") "kind_of", "kind_of", q_Desk_kind_of, s_Desk_kind_of, [], []⟩) rfl
theorem fun_Desk_term_of : ∃ fd, FunD K "term_of" q_Desk_term_of (defArgs s_Desk_term_of) (defBody s_Desk_term_of) (defScope s_Desk_term_of) [] [] (He.ma K (He.ga K "Desk") "term_of") fd := T.fun_ 22 (d := ⟨fun K => He.ma K (He.ga K "Desk") "term_of", "term_of", q_Desk_term_of, s_Desk_term_of, [], []⟩) rfl
theorem fun_Desk__paper : ∃ fd, FunD K "_paper" q_Desk__paper (defArgs s_Desk__paper) (defBody s_Desk__paper) (defScope s_Desk__paper) [] [] (He.ma K (He.ga K "Desk") "_paper") fd := T.fun_ 23 (d := ⟨fun K => He.ma K (He.ga K "Desk") "_paper", "_paper", q_Desk__paper, s_Desk__paper, [], []⟩) rfl
theorem fun_Desk__take_step : ∃ fd, FunD K "_take_step" q_Desk__take_step (defArgs s_Desk__take_step) (defBody s_Desk__take_step) (defScope s_Desk__take_step) [] [] (He.ma K (He.ga K "Desk") "_take_step") fd := T.fun_ 24 (d := ⟨fun K => He.ma K (He.ga K "Desk") "_take_step", "_take_step", q_Desk__take_step, s_Desk__take_step, [], []⟩) rfl
theorem fun_Desk_put : ∃ fd, FunD K "put" q_Desk_put (defArgs s_Desk_put) (defBody s_Desk_put) (defScope s_Desk_put) [] [] (He.ma K (He.ga K "Desk") "put") fd := T.fun_ 25 (d := ⟨fun K => He.ma K (He.ga K "Desk") "put", "put", q_Desk_put, s_Desk_put, [], []⟩) rfl
theorem fun_Desk_drop : ∃ fd, FunD K "drop" q_Desk_drop (defArgs s_Desk_drop) (defBody s_Desk_drop) (defScope s_Desk_drop) [] [] (He.ma K (He.ga K "Desk") "drop") fd := T.fun_ 26 (d := ⟨fun K => He.ma K (He.ga K "Desk") "drop", "drop", q_Desk_drop, s_Desk_drop, [], []⟩) rfl
theorem fun_Desk_rename : ∃ fd, FunD K "rename" q_Desk_rename (defArgs s_Desk_rename) (defBody s_Desk_rename) (defScope s_Desk_rename) [] [] (He.ma K (He.ga K "Desk") "rename") fd := T.fun_ 27 (d := ⟨fun K => He.ma K (He.ga K "Desk") "rename", "rename", q_Desk_rename, s_Desk_rename, [], []⟩) rfl
theorem fun_Desk_run : ∃ fd, FunD K "run" q_Desk_run (defArgs s_Desk_run) (defBody s_Desk_run) (defScope s_Desk_run) [] [] (He.ma K (He.ga K "Desk") "run") fd := T.fun_ 28 (d := ⟨fun K => He.ma K (He.ga K "Desk") "run", "run", q_Desk_run, s_Desk_run, [], []⟩) rfl
theorem fun_Desk_undo : ∃ fd, FunD K "undo" q_Desk_undo (defArgs s_Desk_undo) (defBody s_Desk_undo) (defScope s_Desk_undo) [] [] (He.ma K (He.ga K "Desk") "undo") fd := T.fun_ 29 (d := ⟨fun K => He.ma K (He.ga K "Desk") "undo", "undo", q_Desk_undo, s_Desk_undo, [], []⟩) rfl
theorem fun_Desk_redo : ∃ fd, FunD K "redo" q_Desk_redo (defArgs s_Desk_redo) (defBody s_Desk_redo) (defScope s_Desk_redo) [] [] (He.ma K (He.ga K "Desk") "redo") fd := T.fun_ 30 (d := ⟨fun K => He.ma K (He.ga K "Desk") "redo", "redo", q_Desk_redo, s_Desk_redo, [], []⟩) rfl
theorem fun_edited : ∃ fd, FunD K "edited" q_edited (defArgs s_edited) (defBody s_edited) (defScope s_edited) [] [] (He.ga K "edited") fd := T.fun_ 31 (d := ⟨fun K => He.ga K "edited", "edited", q_edited, s_edited, [], []⟩) rfl
theorem kp_edited : PySem.W.keepIn K (.ref (He.ga K "edited")) = true := (fun_edited T).elim fun _ F => F.kp
theorem fun__law_start : ∃ fd, FunD K "_law_start" q__law_start (defArgs s__law_start) (defBody s__law_start) (defScope s__law_start) [] [] (He.ga K "_law_start") fd := T.fun_ 32 (d := ⟨fun K => He.ga K "_law_start", "_law_start", q__law_start, s__law_start, [], []⟩) rfl
theorem kp__law_start : PySem.W.keepIn K (.ref (He.ga K "_law_start")) = true := (fun__law_start T).elim fun _ F => F.kp
theorem fun__law_pick : ∃ fd, FunD K "_law_pick" q__law_pick (defArgs s__law_pick) (defBody s__law_pick) (defScope s__law_pick) [] [] (He.ga K "_law_pick") fd := T.fun_ 33 (d := ⟨fun K => He.ga K "_law_pick", "_law_pick", q__law_pick, s__law_pick, [], []⟩) rfl
theorem kp__law_pick : PySem.W.keepIn K (.ref (He.ga K "_law_pick")) = true := (fun__law_pick T).elim fun _ F => F.kp
theorem fun__law_same : ∃ fd, FunD K "_law_same" q__law_same (defArgs s__law_same) (defBody s__law_same) (defScope s__law_same) [] [] (He.ga K "_law_same") fd := T.fun_ 34 (d := ⟨fun K => He.ga K "_law_same", "_law_same", q__law_same, s__law_same, [], []⟩) rfl
theorem kp__law_same : PySem.W.keepIn K (.ref (He.ga K "_law_same")) = true := (fun__law_same T).elim fun _ F => F.kp
theorem fun__law_names : ∃ fd, FunD K "_law_names" q__law_names (defArgs s__law_names) (defBody s__law_names) (defScope s__law_names) [] [] (He.ga K "_law_names") fd := T.fun_ 35 (d := ⟨fun K => He.ga K "_law_names", "_law_names", q__law_names, s__law_names, [], []⟩) rfl
theorem kp__law_names : PySem.W.keepIn K (.ref (He.ga K "_law_names")) = true := (fun__law_names T).elim fun _ F => F.kp
theorem fun__law_pool : ∃ fd, FunD K "_law_pool" q__law_pool (defArgs s__law_pool) (defBody s__law_pool) (defScope s__law_pool) [] [] (He.ga K "_law_pool") fd := T.fun_ 36 (d := ⟨fun K => He.ga K "_law_pool", "_law_pool", q__law_pool, s__law_pool, [], []⟩) rfl
theorem kp__law_pool : PySem.W.keepIn K (.ref (He.ga K "_law_pool")) = true := (fun__law_pool T).elim fun _ F => F.kp
theorem fun__law_small_term : ∃ fd, FunD K "_law_small_term" q__law_small_term (defArgs s__law_small_term) (defBody s__law_small_term) (defScope s__law_small_term) [] [] (He.ga K "_law_small_term") fd := T.fun_ 37 (d := ⟨fun K => He.ga K "_law_small_term", "_law_small_term", q__law_small_term, s__law_small_term, [], []⟩) rfl
theorem kp__law_small_term : PySem.W.keepIn K (.ref (He.ga K "_law_small_term")) = true := (fun__law_small_term T).elim fun _ F => F.kp
theorem fun__law_edit : ∃ fd, FunD K "_law_edit" q__law_edit (defArgs s__law_edit) (defBody s__law_edit) (defScope s__law_edit) [] [] (He.ga K "_law_edit") fd := T.fun_ 38 (d := ⟨fun K => He.ga K "_law_edit", "_law_edit", q__law_edit, s__law_edit, [], []⟩) rfl
theorem kp__law_edit : PySem.W.keepIn K (.ref (He.ga K "_law_edit")) = true := (fun__law_edit T).elim fun _ F => F.kp
theorem fun__law_opening : ∃ fd, FunD K "_law_opening" q__law_opening (defArgs s__law_opening) (defBody s__law_opening) (defScope s__law_opening) [] [] (He.ga K "_law_opening") fd := T.fun_ 39 (d := ⟨fun K => He.ga K "_law_opening", "_law_opening", q__law_opening, s__law_opening, [], []⟩) rfl
theorem kp__law_opening : PySem.W.keepIn K (.ref (He.ga K "_law_opening")) = true := (fun__law_opening T).elim fun _ F => F.kp
theorem fun__law_deeds : ∃ fd, FunD K "_law_deeds" q__law_deeds (defArgs s__law_deeds) (defBody s__law_deeds) (defScope s__law_deeds) [] [] (He.ga K "_law_deeds") fd := T.fun_ 40 (d := ⟨fun K => He.ga K "_law_deeds", "_law_deeds", q__law_deeds, s__law_deeds, [], []⟩) rfl
theorem kp__law_deeds : PySem.W.keepIn K (.ref (He.ga K "_law_deeds")) = true := (fun__law_deeds T).elim fun _ F => F.kp
theorem fun__law_reason : ∃ fd, FunD K "_law_reason" q__law_reason (defArgs s__law_reason) (defBody s__law_reason) (defScope s__law_reason) [] [] (He.ga K "_law_reason") fd := T.fun_ 41 (d := ⟨fun K => He.ga K "_law_reason", "_law_reason", q__law_reason, s__law_reason, [], []⟩) rfl
theorem kp__law_reason : PySem.W.keepIn K (.ref (He.ga K "_law_reason")) = true := (fun__law_reason T).elim fun _ F => F.kp
theorem fun__law_renamed : ∃ fd, FunD K "_law_renamed" q__law_renamed (defArgs s__law_renamed) (defBody s__law_renamed) (defScope s__law_renamed) [] [] (He.ga K "_law_renamed") fd := T.fun_ 42 (d := ⟨fun K => He.ga K "_law_renamed", "_law_renamed", q__law_renamed, s__law_renamed, [], []⟩) rfl
theorem kp__law_renamed : PySem.W.keepIn K (.ref (He.ga K "_law_renamed")) = true := (fun__law_renamed T).elim fun _ F => F.kp
theorem fun__law_edited : ∃ fd, FunD K "_law_edited" q__law_edited (defArgs s__law_edited) (defBody s__law_edited) (defScope s__law_edited) [] [] (He.ga K "_law_edited") fd := T.fun_ 43 (d := ⟨fun K => He.ga K "_law_edited", "_law_edited", q__law_edited, s__law_edited, [], []⟩) rfl
theorem kp__law_edited : PySem.W.keepIn K (.ref (He.ga K "_law_edited")) = true := (fun__law_edited T).elim fun _ F => F.kp
theorem fun__law_step : ∃ fd, FunD K "_law_step" q__law_step (defArgs s__law_step) (defBody s__law_step) (defScope s__law_step) [] [] (He.ga K "_law_step") fd := T.fun_ 44 (d := ⟨fun K => He.ga K "_law_step", "_law_step", q__law_step, s__law_step, [], []⟩) rfl
theorem kp__law_step : PySem.W.keepIn K (.ref (He.ga K "_law_step")) = true := (fun__law_step T).elim fun _ F => F.kp
theorem fun__law_run_due : ∃ fd, FunD K "_law_run_due" q__law_run_due (defArgs s__law_run_due) (defBody s__law_run_due) (defScope s__law_run_due) [] [] (He.ga K "_law_run_due") fd := T.fun_ 45 (d := ⟨fun K => He.ga K "_law_run_due", "_law_run_due", q__law_run_due, s__law_run_due, [], []⟩) rfl
theorem kp__law_run_due : PySem.W.keepIn K (.ref (He.ga K "_law_run_due")) = true := (fun__law_run_due T).elim fun _ F => F.kp
theorem fun__law_due : ∃ fd, FunD K "_law_due" q__law_due (defArgs s__law_due) (defBody s__law_due) (defScope s__law_due) [] [] (He.ga K "_law_due") fd := T.fun_ 46 (d := ⟨fun K => He.ga K "_law_due", "_law_due", q__law_due, s__law_due, [], []⟩) rfl
theorem kp__law_due : PySem.W.keepIn K (.ref (He.ga K "_law_due")) = true := (fun__law_due T).elim fun _ F => F.kp
theorem fun__law_run_told : ∃ fd, FunD K "_law_run_told" q__law_run_told (defArgs s__law_run_told) (defBody s__law_run_told) (defScope s__law_run_told) [] [] (He.ga K "_law_run_told") fd := T.fun_ 47 (d := ⟨fun K => He.ga K "_law_run_told", "_law_run_told", q__law_run_told, s__law_run_told, [], []⟩) rfl
theorem kp__law_run_told : PySem.W.keepIn K (.ref (He.ga K "_law_run_told")) = true := (fun__law_run_told T).elim fun _ F => F.kp
theorem fun__law_edit_told : ∃ fd, FunD K "_law_edit_told" q__law_edit_told (defArgs s__law_edit_told) (defBody s__law_edit_told) (defScope s__law_edit_told) [] [] (He.ga K "_law_edit_told") fd := T.fun_ 48 (d := ⟨fun K => He.ga K "_law_edit_told", "_law_edit_told", q__law_edit_told, s__law_edit_told, [], []⟩) rfl
theorem kp__law_edit_told : PySem.W.keepIn K (.ref (He.ga K "_law_edit_told")) = true := (fun__law_edit_told T).elim fun _ F => F.kp
theorem fun__law_told : ∃ fd, FunD K "_law_told" q__law_told (defArgs s__law_told) (defBody s__law_told) (defScope s__law_told) [] [] (He.ga K "_law_told") fd := T.fun_ 49 (d := ⟨fun K => He.ga K "_law_told", "_law_told", q__law_told, s__law_told, [], []⟩) rfl
theorem kp__law_told : PySem.W.keepIn K (.ref (He.ga K "_law_told")) = true := (fun__law_told T).elim fun _ F => F.kp
theorem fun__law_stands : ∃ fd, FunD K "_law_stands" q__law_stands (defArgs s__law_stands) (defBody s__law_stands) (defScope s__law_stands) [] [] (He.ga K "_law_stands") fd := T.fun_ 50 (d := ⟨fun K => He.ga K "_law_stands", "_law_stands", q__law_stands, s__law_stands, [], []⟩) rfl
theorem kp__law_stands : PySem.W.keepIn K (.ref (He.ga K "_law_stands")) = true := (fun__law_stands T).elim fun _ F => F.kp
theorem fun__law_walked : ∃ fd, FunD K "_law_walked" q__law_walked (defArgs s__law_walked) (defBody s__law_walked) (defScope s__law_walked) [] [] (He.ga K "_law_walked") fd := T.fun_ 51 (d := ⟨fun K => He.ga K "_law_walked", "_law_walked", q__law_walked, s__law_walked, [], []⟩) rfl
theorem kp__law_walked : PySem.W.keepIn K (.ref (He.ga K "_law_walked")) = true := (fun__law_walked T).elim fun _ F => F.kp
theorem fun__law_nine : ∃ fd, FunD K "_law_nine" q__law_nine (defArgs s__law_nine) (defBody s__law_nine) (defScope s__law_nine) [] [] (He.ga K "_law_nine") fd := T.fun_ 52 (d := ⟨fun K => He.ga K "_law_nine", "_law_nine", q__law_nine, s__law_nine, [], []⟩) rfl
theorem kp__law_nine : PySem.W.keepIn K (.ref (He.ga K "_law_nine")) = true := (fun__law_nine T).elim fun _ F => F.kp
theorem fun__law_hundred : ∃ fd, FunD K "_law_hundred" q__law_hundred (defArgs s__law_hundred) (defBody s__law_hundred) (defScope s__law_hundred) [] [] (He.ga K "_law_hundred") fd := T.fun_ 53 (d := ⟨fun K => He.ga K "_law_hundred", "_law_hundred", q__law_hundred, s__law_hundred, [], []⟩) rfl
theorem kp__law_hundred : PySem.W.keepIn K (.ref (He.ga K "_law_hundred")) = true := (fun__law_hundred T).elim fun _ F => F.kp
theorem fun_law : ∃ fd, FunD K "law" q_law (defArgs s_law) (defBody s_law) (defScope s_law) [] [] (He.ga K "law") fd := T.fun_ 54 (d := ⟨fun K => He.ga K "law", "law", q_law, s_law, [], []⟩) rfl
theorem kp_law : PySem.W.keepIn K (.ref (He.ga K "law")) = true := (fun_law T).elim fun _ F => F.kp
theorem on_ChoosersError : OxnT K "ChoosersError" := oxnB_ok (oxb_ChoosersError T)
theorem ot_InvalidTerm : OexT K "InvalidTerm" "path" := oexF_ok (oxf_InvalidTerm T)
theorem on_OutOfRange : OxnT K "OutOfRange" := oxnB_ok (oxb_OutOfRange T)
theorem on_TooLarge : OxnT K "TooLarge" := oxnB_ok (oxb_TooLarge T)
theorem on_InvalidName : OxnT K "InvalidName" := oxnB_ok (oxb_InvalidName T)
theorem ot_UnknownName : OexT K "UnknownName" "name" := oexF_ok (oxf_UnknownName T)
theorem ot_NameTaken : OexT K "NameTaken" "name" := oexF_ok (oxf_NameTaken T)
theorem on_NoStep : OxnT K "NoStep" := oxnB_ok (oxb_NoStep T)
theorem ot_EditFailed : OexT K "EditFailed" "index" := oexF_ok (oxf_EditFailed T)
theorem pr_Desk_names : PropOf K (He.ga K "Desk") "names" (propAd K "Desk" "names") (propB K "Desk" "names" 0) := prpB_ok (prb_Desk_names T)
theorem pr_Desk_steps : PropOf K (He.ga K "Desk") "steps" (propAd K "Desk" "steps") (propB K "Desk" "steps" 0) := prpB_ok (prb_Desk_steps T)
theorem pr_Desk_undone : PropOf K (He.ga K "Desk") "undone" (propAd K "Desk" "undone") (propB K "Desk" "undone" 0) := prpB_ok (prb_Desk_undone T)
theorem pr_Desk_limit : PropOf K (He.ga K "Desk") "limit" (propAd K "Desk" "limit") (propB K "Desk" "limit" 0) := prpB_ok (prb_Desk_limit T)
end
end K9
set_option maxHeartbeats 0
namespace K9
open PySem PySem.Spec PyProof.Rows L2
/-! The head: run. -/
abbrev RW : PySem.W.OpenRow := PySem.W.OpenLaw.row PySem.Challenge.rw_aimstoldback_k88_whole_steps_undone
abbrev hk : PySem.W.Hook := hookX 5 fx fn
def ob (s : PySem.W.SharedT) : He.AlD := seeX 5 fx fn (HandSHeadRun.getT s)
theorem ob_eq (s : PySem.W.SharedT) : ob s = hk.obs s.abs := seeX_eq (HandSHeadRun.getT_eq s)
def l1 : List PySem.Str := ["_wall", "ChoosersError", "InvalidText", "InvalidTerm", "OutOfRange", "TooLarge", "InvalidName", "UnknownName", "NameTaken", "NoStep", "EditFailed", "LETTERS", "DIGITS", "MOST_LETTERS", "MOST_DIGITS", "MOST_NUMBER", "MOST_DEPTH", "is_word", "is_number", "write_part", "write_term", "atom_end", "atom", "read_term", "whole", "KINDS", "MOST_PAPERS", "MOST_NESTING", "is_use", "nesting"]
def l2 : List PySem.Str := ["put_paper", "drop_paper", "replace_name", "rename_paper", "FIRST_LIMIT", "MOST_STEPS", "Desk", "edited", "check_desk", "_law_start", "_law_pick", "_law_same", "_law_names", "_law_pool", "_law_small_term", "_law_edit", "_law_opening", "_law_deeds", "_law_reason", "_law_renamed", "_law_edited", "_law_step", "_law_run_due", "_law_due", "_law_run_told", "_law_edit_told", "_law_told", "_law_stands", "_law_walked", "_law_nine", "_law_hundred"]
theorem run_head (w : World) : HandSHeadRun.RunEq RW (PySem.W.view RW.prog [66]) hk ob 12000 (l1 ++ l2) w := by
  intro os
  kernel_rfl
end K9
set_option maxHeartbeats 4000000
namespace K9
open PySem PySem.Spec PyProof.Rows L2
/-! Printed by kgen.py: readings and bodies. -/
def t_InvalidTerm___init__ (K : PySem.W.Frag) : TS :=
  (tOst K "path" (tVar 0) (tVar 1))
theorem b_InvalidTerm___init__ {P : Program} {w : World} {K : PySem.W.Frag} {mg : Str → Option Value} {base : Heap} {k : Nat} {fa : Addr} {cdv : Value} {A : Around} {outer : List Env} {s0 : Shared} {H0 : Hp} {E : XK} (T : TT K mg) (hr : Room k (A.deeper (envOfC q_InvalidTerm___init__ (defScope s_InvalidTerm___init__) s0.heap.objs.size fa cdv)))
     :
    PSs (cxOf CX0 P w K mg base N_InvalidTerm___init__ q_InvalidTerm___init__ (defScope s_InvalidTerm___init__) fa cdv A outer s0 H0 E).nox (defBody s_InvalidTerm___init__) (t_InvalidTerm___init__ K) := by
  exact ((pss_one (ps_ost (pv 0) (pv 1))))
def t_UnknownName___init__ (K : PySem.W.Frag) : TS :=
  (tOst K "name" (tVar 0) (tVar 1))
theorem b_UnknownName___init__ {P : Program} {w : World} {K : PySem.W.Frag} {mg : Str → Option Value} {base : Heap} {k : Nat} {fa : Addr} {cdv : Value} {A : Around} {outer : List Env} {s0 : Shared} {H0 : Hp} {E : XK} (T : TT K mg) (hr : Room k (A.deeper (envOfC q_UnknownName___init__ (defScope s_UnknownName___init__) s0.heap.objs.size fa cdv)))
     :
    PSs (cxOf CX0 P w K mg base N_UnknownName___init__ q_UnknownName___init__ (defScope s_UnknownName___init__) fa cdv A outer s0 H0 E).nox (defBody s_UnknownName___init__) (t_UnknownName___init__ K) := by
  exact ((pss_one (ps_ost (pv 0) (pv 1))))
def t_NameTaken___init__ (K : PySem.W.Frag) : TS :=
  (tOst K "name" (tVar 0) (tVar 1))
theorem b_NameTaken___init__ {P : Program} {w : World} {K : PySem.W.Frag} {mg : Str → Option Value} {base : Heap} {k : Nat} {fa : Addr} {cdv : Value} {A : Around} {outer : List Env} {s0 : Shared} {H0 : Hp} {E : XK} (T : TT K mg) (hr : Room k (A.deeper (envOfC q_NameTaken___init__ (defScope s_NameTaken___init__) s0.heap.objs.size fa cdv)))
     :
    PSs (cxOf CX0 P w K mg base N_NameTaken___init__ q_NameTaken___init__ (defScope s_NameTaken___init__) fa cdv A outer s0 H0 E).nox (defBody s_NameTaken___init__) (t_NameTaken___init__ K) := by
  exact ((pss_one (ps_ost (pv 0) (pv 1))))
def t_EditFailed___init__ (K : PySem.W.Frag) : TS :=
  (tOst K "index" (tVar 0) (tVar 1))
theorem b_EditFailed___init__ {P : Program} {w : World} {K : PySem.W.Frag} {mg : Str → Option Value} {base : Heap} {k : Nat} {fa : Addr} {cdv : Value} {A : Around} {outer : List Env} {s0 : Shared} {H0 : Hp} {E : XK} (T : TT K mg) (hr : Room k (A.deeper (envOfC q_EditFailed___init__ (defScope s_EditFailed___init__) s0.heap.objs.size fa cdv)))
     :
    PSs (cxOf CX0 P w K mg base N_EditFailed___init__ q_EditFailed___init__ (defScope s_EditFailed___init__) fa cdv A outer s0 H0 E).nox (defBody s_EditFailed___init__) (t_EditFailed___init__ K) := by
  exact ((pss_one (ps_ost (pv 0) (pv 1))))
def t_is_word (K : PySem.W.Frag) : TS :=
  (tSeq (tIfS (tOr (tNot (tB (tCB (rIsi K) (tCons (tVar 0) (tCons (tC (.ty "str")) tNil))))) (tOr (tTest (tOp (rEqG K) (tVar 0) (tC (.str (PySem.Str.ofString ""))))) (tTest (tOp rGt (tCB (rLenG K) (tCons (tVar 0) tNil)) (tC (.int 12)))))) (tRet (tC (.bl false))) tNext)
    (tSeq (tFor (iStr (tVar 0)) (gName 1) (tIfS (tTest (tOp (rNotInG K) (tVar 1) (tC (.str c_LETTERS_v)))) (tRet (tC (.bl false))) tNext))
    (tRet (tC (.bl true)))))
theorem b_is_word {P : Program} {w : World} {K : PySem.W.Frag} {mg : Str → Option Value} {base : Heap} {k : Nat} {fa : Addr} {cdv : Value} {A : Around} {outer : List Env} {s0 : Shared} {H0 : Hp} {E : XK} (T : TT K mg) (hr : Room k (A.deeper (envOfC q_is_word (defScope s_is_word) s0.heap.objs.size fa cdv)))
     :
    PSs (cxOf CX0 P w K mg base N_is_word q_is_word (defScope s_is_word) fa cdv A outer s0 H0 E).nox (defBody s_is_word) (t_is_word K) := by
  exact ((pss_cons (ps_if (PW.pt (pw_or (pt_not (pt_val (pe_callB call_isi (by rfl) (m_isinstance T) (by decide +kernel) (pa_cons (pv 0) (pa_cons (pe_bltn (v := .ty "str") rfl (m_str T) (by decide +kernel) rfl) pa_nil))))) (pw_or (pt_cmpR (op_eqG hr.units) (pv 0) pe_str (nomark _)) (pw_or1 (pt_cmpR op_gt (pe_callB call_lenG (by rfl) (m_len T) boot_len (pa_cons (pv 0) pa_nil)) (pe_gi (c_MOST_LETTERS T)) (nomark _)))))) (pss_one (ps_ret pe_bl)) pss_nil)
      (pss_cons (ps_for PassesOwn.never rfl (pi_str (pv 0)) (pg_name (i := 1) sc_is_word.nd rfl (by first | exact Or.inl rfl | exact Or.inr rfl)) (pss_one (ps_if (pt_cmpR op_notInG (pv 1) (pe_gs (c_LETTERS T)) (by rfl)) (pss_one (ps_ret pe_bl)) pss_nil)))
      (pss_one (ps_ret pe_bl)))))
def t_is_number (K : PySem.W.Frag) : TS :=
  (tRet (tAndV (tCB (rIsi K) (tCons (tVar 0) (tCons (tC (.ty "int")) tNil))) (tChain rLe rLe (tC (.int 0)) (tVar 0) (tC (.int 999999999)))))
theorem b_is_number {P : Program} {w : World} {K : PySem.W.Frag} {mg : Str → Option Value} {base : Heap} {k : Nat} {fa : Addr} {cdv : Value} {A : Around} {outer : List Env} {s0 : Shared} {H0 : Hp} {E : XK} (T : TT K mg) (hr : Room k (A.deeper (envOfC q_is_number (defScope s_is_number) s0.heap.objs.size fa cdv)))
     :
    PSs (cxOf CX0 P w K mg base N_is_number q_is_number (defScope s_is_number) fa cdv A outer s0 H0 E).nox (defBody s_is_number) (t_is_number K) := by
  exact ((pss_one (ps_ret (pe_and (pe_callB call_isi (by rfl) (m_isinstance T) (by decide +kernel) (pa_cons (pv 0) (pa_cons (pe_bltn (v := .ty "int") rfl (m_int T) (by decide +kernel) rfl) pa_nil))) (pe_one (pe_chain op_le op_le pe_int (pv 0) (pe_gi (c_MOST_NUMBER T))))))))
def t_write_part (K : PySem.W.Frag) (sp_is_word : Sp) (sp_is_number : Sp) (sp_InvalidTerm___init__ : Sp) (sp_write_part : Sp) (E : XK) : TS :=
  (tSeq (tIfS (tB (tCallR sp_is_word (fun _ => E0) (tCons (tVar 0) tNil))) (tRet (tVar 0)) tNext)
    (tSeq (tIfS (tB (tCallR sp_is_number (fun _ => E0) (tCons (tVar 0) tNil))) (tRet (tCB rStrI (tCons (tVar 0) tNil))) tNext)
    (tSeq (tIfS (tOr (tNot (tB (tCB (rIsi K) (tCons (tVar 0) (tCons (tC (.ty "tuple")) tNil))))) (tTest (tOp rGe (tCB (rLenG K) (tCons (tVar 1) tNil)) (tC (.int 30))))) (tRaiseI sp_InvalidTerm___init__ (He.ga K "InvalidTerm") E (tCons (tVar 1) tNil)) tNext)
    (tSeq (tAsg (tLst tNil) (gName 2))
    (tSeq (tFor (iRng1 (tCons (tCB (rLenG K) (tCons (tVar 0) tNil)) tNil)) (gName 3) (tDrop (tBM K "list" rAppend (tVar 2) (tCons (tCallR sp_write_part (fun _ => E) (tCons (tOp (rIx K) (tVar 0) (tVar 3)) (tCons (tOp (rAddG K) (tVar 1) (tTup (tCons (tVar 3) tNil))) tNil))) tNil))))
    (tRet (tOp (rAddG K) (tOp (rAddG K) (tC (.str (PySem.Str.ofString "("))) (tJoin K (tC (.str (PySem.Str.ofString " "))) (tVar 2))) (tC (.str (PySem.Str.ofString ")"))))))))))
theorem b_write_part {P : Program} {w : World} {K : PySem.W.Frag} {mg : Str → Option Value} {base : Heap} {k k_is_word k_is_number k_InvalidTerm___init__ k_write_part : Nat} {sp_is_word sp_is_number sp_InvalidTerm___init__ sp_write_part : Sp} {fa : Addr} {cdv : Value} {A : Around} {outer : List Env} {s0 : Shared} {H0 : Hp} {E : XK} (T : TT K mg) (hr : Room k (A.deeper (envOfC q_write_part (defScope s_write_part) s0.heap.objs.size fa cdv)))
    (F_is_word : FnR P w K mg base CX0 k_is_word (He.ga K "is_word") sp_is_word) (l_is_word : k_is_word ≤ k)
    (F_is_number : FnR P w K mg base CX0 k_is_number (He.ga K "is_number") sp_is_number) (l_is_number : k_is_number ≤ k)
    (F_InvalidTerm___init__ : FnR P w K mg base CX0 k_InvalidTerm___init__ (He.ma K (He.ga K "InvalidTerm") "__init__") sp_InvalidTerm___init__) (l_InvalidTerm___init__ : k_InvalidTerm___init__ + 1 ≤ k)
    (F_write_part : FnR P w K mg base (L2N.CX P w) k_write_part (He.ga K "write_part") sp_write_part) (l_write_part : k_write_part ≤ k) :
    PSs (cxOf (L2N.CX P w) P w K mg base N_write_part q_write_part (defScope s_write_part) fa cdv A outer s0 H0 E) (defBody s_write_part) (t_write_part K sp_is_word sp_is_number sp_InvalidTerm___init__ sp_write_part E) := by
  have tkN : L2N.Takes (cxOf (L2N.CX P w) P w K mg base N_write_part q_write_part (defScope s_write_part) fa cdv A outer s0 H0 E) (fun cls d _ H => E cls d H) := L2N.takes_of rfl rfl rfl rfl
  exact ((pss_cons (ps_if (pt_val (pe_cf F_is_word (hr.mono l_is_word) (kp_is_word T) (g_is_word T) at0 (pa_cons (pv 0) pa_nil))) (pss_one (ps_ret (pv 0))) pss_nil)
      (pss_cons (ps_if (pt_val (pe_cf F_is_number (hr.mono l_is_number) (kp_is_number T) (g_is_number T) at0 (pa_cons (pv 0) pa_nil))) (pss_one (ps_ret (pe_callTy call_str_int (by rfl) (m_str T) (by decide +kernel) (pa_cons (pv 0) pa_nil)))) pss_nil)
      (pss_cons (ps_if (PW.pt (pw_or (pt_not (pt_val (pe_callB call_isi (by rfl) (m_isinstance T) (by decide +kernel) (pa_cons (pv 0) (pa_cons (pe_bltn (v := .ty "tuple") rfl (m_tuple T) (by decide +kernel) rfl) pa_nil))))) (pw_or1 (pt_cmpR op_ge (pe_callB call_lenG (by rfl) (m_len T) boot_len (pa_cons (pv 1) pa_nil)) (pe_gi (c_MOST_DEPTH T)) (nomark _))))) (pss_one (L2N.ps_raise rfl tkN (pmk_oexN (ot_InvalidTerm T).oc (ot_InvalidTerm T).ini (ot_InvalidTerm T).typ F_InvalidTerm___init__ (hr.mono l_InvalidTerm___init__) rfl (g_InvalidTerm T) (pa_cons (pv 1) pa_nil)))) pss_nil)
      (pss_cons (ps_set (i := 2) sc_write_part.nd rfl (by first | exact Or.inl rfl | exact Or.inr rfl) (pe_lst pa_nil))
      (pss_cons (ps_for (L2.passes_of rfl) rfl (pi_range1 rfl (m_range T) (pa_cons (pe_callB call_lenG (by rfl) (m_len T) boot_len (pa_cons (pv 0) pa_nil)) pa_nil)) (pg_name (i := 3) sc_write_part.nd rfl (by first | exact Or.inl rfl | exact Or.inr rfl)) (pss_one (ps_expr (pe_bm PySem.F.plainAttrs_list PySem.F.slot_list_append PySem.F.type_list_append mt_append (pv 2) (pa_cons (pe_cf F_write_part (hr.mono l_write_part) (kp_write_part T) (g_write_part T) (fun σ => L2N.passAt tkN σ) (pa_cons (pe_ix ix_seq (pv 0) (pv 3) (fun _ _ => rfl)) (pa_cons (pe_op op_addG (pv 1) (pe_tup (pa_cons (pv 3) pa_nil))) pa_nil))) pa_nil)))))
      (pss_one (ps_ret (pe_op op_addG (pe_op op_addG pe_str (pe_join pe_str (pv 2))) pe_str)))))))))
def t_write_term (K : PySem.W.Frag) (sp_write_part : Sp) (E : XK) : TS :=
  (tRet (tCallR sp_write_part (fun _ => E) (tCons (tVar 0) (tCons (tTup tNil) tNil))))
theorem b_write_term {P : Program} {w : World} {K : PySem.W.Frag} {mg : Str → Option Value} {base : Heap} {k k_write_part : Nat} {sp_write_part : Sp} {fa : Addr} {cdv : Value} {A : Around} {outer : List Env} {s0 : Shared} {H0 : Hp} {E : XK} (T : TT K mg) (hr : Room k (A.deeper (envOfC q_write_term (defScope s_write_term) s0.heap.objs.size fa cdv)))
    (F_write_part : FnR P w K mg base (L2N.CX P w) k_write_part (He.ga K "write_part") sp_write_part) (l_write_part : k_write_part ≤ k) :
    PSs (cxOf (L2N.CX P w) P w K mg base N_write_term q_write_term (defScope s_write_term) fa cdv A outer s0 H0 E) (defBody s_write_term) (t_write_term K sp_write_part E) := by
  have tkN : L2N.Takes (cxOf (L2N.CX P w) P w K mg base N_write_term q_write_term (defScope s_write_term) fa cdv A outer s0 H0 E) (fun cls d _ H => E cls d H) := L2N.takes_of rfl rfl rfl rfl
  exact ((pss_one (ps_ret (pe_cf F_write_part (hr.mono l_write_part) (kp_write_part T) (g_write_part T) (fun σ => L2N.passAt tkN σ) (pa_cons (pv 0) (pa_cons (pe_tup pa_nil) pa_nil))))))
def t_is_use (K : PySem.W.Frag) (sp_is_word : Sp) : TS :=
  (tRet (tAndV (tCB (rIsi K) (tCons (tVar 0) (tCons (tC (.ty "tuple")) tNil))) (tAndV (tOp (rEqG K) (tCB (rLenG K) (tCons (tVar 0) tNil)) (tC (.int 2))) (tAndV (tOp (rInG K) (tOp (rIx K) (tVar 0) (tC (.int 0))) (tC (.ref (He.ga K "KINDS")))) (tCallR sp_is_word (fun _ => E0) (tCons (tOp (rIx K) (tVar 0) (tC (.int 1))) tNil))))))
theorem b_is_use {P : Program} {w : World} {K : PySem.W.Frag} {mg : Str → Option Value} {base : Heap} {k k_is_word : Nat} {sp_is_word : Sp} {fa : Addr} {cdv : Value} {A : Around} {outer : List Env} {s0 : Shared} {H0 : Hp} {E : XK} (T : TT K mg) (hr : Room k (A.deeper (envOfC q_is_use (defScope s_is_use) s0.heap.objs.size fa cdv)))
    (F_is_word : FnR P w K mg base CX0 k_is_word (He.ga K "is_word") sp_is_word) (l_is_word : k_is_word ≤ k) :
    PSs (cxOf CX0 P w K mg base N_is_use q_is_use (defScope s_is_use) fa cdv A outer s0 H0 E).nox (defBody s_is_use) (t_is_use K sp_is_word) := by
  exact ((pss_one (ps_ret (pe_and (pe_callB call_isi (by rfl) (m_isinstance T) (by decide +kernel) (pa_cons (pv 0) (pa_cons (pe_bltn (v := .ty "tuple") rfl (m_tuple T) (by decide +kernel) rfl) pa_nil))) (pe_and (pe_cmpR (op_eqG hr.units) (pe_callB call_lenG (by rfl) (m_len T) boot_len (pa_cons (pv 0) pa_nil)) pe_int (nomark _)) (pe_and (pe_cmpR op_inG (pe_ix ix_seq (pv 0) pe_int (fun _ _ => rfl)) (pe_gr (g_KINDS T)) (by rfl)) (pe_one (pe_cf F_is_word (hr.mono l_is_word) (kp_is_word T) (g_is_word T) at0 (pa_cons (pe_ix ix_seq (pv 0) pe_int (fun _ _ => rfl)) pa_nil)))))))))
def t_nesting (K : PySem.W.Frag) (sp_is_use : Sp) (sp_nesting : Sp) : TS :=
  (tSeq (tIfS (tNot (tB (tCB (rIsi K) (tCons (tVar 0) (tCons (tC (.ty "tuple")) tNil))))) (tRet (tC (.int 0))) tNext)
    (tSeq (tIfS (tAnd (tB (tCallR sp_is_use (fun _ => E0) (tCons (tVar 0) tNil))) (tB (tDIn (tOp (rIx K) (tVar 0) (tC (.int 1))) (tVar 1)))) (tRet (tDGet (tVar 1) (tOp (rIx K) (tVar 0) (tC (.int 1))))) tNext)
    (tRet (tOp (rAddG K) (tC (.int 1)) (tCB (rMax K) (tCons (tOp (rAddG K) (tLst (tCons (tC (.int 0)) tNil)) (tLc (iTup K (tVar 0)) (gName 2) tYes (tCallR sp_nesting (fun _ => E0) (tCons (tVar 2) (tCons (tVar 1) tNil))) [2])) tNil))))))
theorem b_nesting {P : Program} {w : World} {K : PySem.W.Frag} {mg : Str → Option Value} {base : Heap} {k k_is_use k_nesting : Nat} {sp_is_use sp_nesting : Sp} {fa : Addr} {cdv : Value} {A : Around} {outer : List Env} {s0 : Shared} {H0 : Hp} {E : XK} (T : TT K mg) (hr : Room k (A.deeper (envOfC q_nesting (defScope s_nesting) s0.heap.objs.size fa cdv)))
    (F_is_use : FnR P w K mg base CX0 k_is_use (He.ga K "is_use") sp_is_use) (l_is_use : k_is_use ≤ k)
    (F_nesting : FnR P w K mg base CX0 k_nesting (He.ga K "nesting") sp_nesting) (l_nesting : k_nesting ≤ k) :
    PSs (cxOf CX0 P w K mg base N_nesting q_nesting (defScope s_nesting) fa cdv A outer s0 H0 E).nox (defBody s_nesting) (t_nesting K sp_is_use sp_nesting) := by
  exact ((pss_cons (ps_if (pt_not (pt_val (pe_callB call_isi (by rfl) (m_isinstance T) (by decide +kernel) (pa_cons (pv 0) (pa_cons (pe_bltn (v := .ty "tuple") rfl (m_tuple T) (by decide +kernel) rfl) pa_nil))))) (pss_one (ps_ret pe_int)) pss_nil)
      (pss_cons (ps_if (PW.pt (pw_and (pt_val (pe_cf F_is_use (hr.mono l_is_use) (kp_is_use T) (g_is_use T) at0 (pa_cons (pv 0) pa_nil))) (pw_and1 (pt_cmp (pc_din (hu_of hr) (pe_ix ix_seq (pv 0) pe_int (fun _ _ => rfl)) (pv 1)))))) (pss_one (ps_ret (pe_dget (hu_of hr) (pv 1) (pe_ix ix_seq (pv 0) pe_int (fun _ _ => rfl)) (fun _ _ => rfl)))) pss_nil)
      (pss_one (ps_ret (pe_op op_addG pe_int (pe_callB (cr_max rfl) (by rfl) (m_max T) (by decide +kernel) (pa_cons (pe_op op_addG (pe_lst (pa_cons pe_int pa_nil)) (pe_lc (own := [("item", 2)]) (g := gName 2) (tt := tYes) rfl sc_nesting.nd (pi_tup (pv 0)) (blkOk_by (own := [("item", 2)]) (N := N_nesting) (sc := defScope s_nesting) (by decide +kernel)) (fun _ _ _ _ _ => pg_name (i := 2) sc_nesting.nd rfl (Or.inl rfl)) (fun _ _ _ _ _ => pts_nil) (fun _ _ _ _ _ => (pe_cf F_nesting (hr.mono l_nesting) (kp_nesting T) (g_nesting T) at0 (pa_cons (pv 2) (pa_cons (pv 1) pa_nil)))))) pa_nil))))))))
def t_put_paper (K : PySem.W.Frag) (sp_is_word : Sp) (sp_write_term : Sp) (sp_nesting : Sp) (E : XK) : TS :=
  (tSeq (tIfS (tNot (tB (tCallR sp_is_word (fun _ => E0) (tCons (tVar 1) tNil)))) (tRaiseO (He.ga K "InvalidName") E) tNext)
    (tSeq (tIfS (tTest (tOp (rNotInG K) (tVar 2) (tC (.ref (He.ga K "KINDS"))))) (tRaiseO (He.ga K "OutOfRange") E) tNext)
    (tSeq (tDrop (tCallR sp_write_term (fun _ => E) (tCons (tVar 3) tNil)))
    (tSeq (tIfS (tOr (tTest (tOp rGt (tCallR sp_nesting (fun _ => E0) (tCons (tVar 3) (tCons tDNewK tNil))) (tC (.int 20)))) (tAnd (tB (tDNotIn (tVar 1) (tVar 0))) (tTest (tOp rGe (tCB (rLenG K) (tCons (tVar 0) tNil)) (tC (.int 20)))))) (tRaiseO (He.ga K "TooLarge") E) tNext)
    (tSeq (tAsg (tCB rDictD (tCons (tVar 0) tNil)) (gName 4))
    (tSeq (sDPut (tVar 4) (tVar 1) (tTup (tCons (tVar 2) (tCons (tVar 3) tNil))))
    (tRet (tVar 4))))))))
theorem b_put_paper {P : Program} {w : World} {K : PySem.W.Frag} {mg : Str → Option Value} {base : Heap} {k k_is_word k_write_term k_nesting : Nat} {sp_is_word sp_write_term sp_nesting : Sp} {fa : Addr} {cdv : Value} {A : Around} {outer : List Env} {s0 : Shared} {H0 : Hp} {E : XK} (T : TT K mg) (hr : Room k (A.deeper (envOfC q_put_paper (defScope s_put_paper) s0.heap.objs.size fa cdv)))
    (F_is_word : FnR P w K mg base CX0 k_is_word (He.ga K "is_word") sp_is_word) (l_is_word : k_is_word ≤ k)
    (F_write_term : FnR P w K mg base (L2N.CX P w) k_write_term (He.ga K "write_term") sp_write_term) (l_write_term : k_write_term ≤ k)
    (F_nesting : FnR P w K mg base CX0 k_nesting (He.ga K "nesting") sp_nesting) (l_nesting : k_nesting ≤ k) :
    PSs (cxOf (L2N.CX P w) P w K mg base N_put_paper q_put_paper (defScope s_put_paper) fa cdv A outer s0 H0 E) (defBody s_put_paper) (t_put_paper K sp_is_word sp_write_term sp_nesting E) := by
  have tkN : L2N.Takes (cxOf (L2N.CX P w) P w K mg base N_put_paper q_put_paper (defScope s_put_paper) fa cdv A outer s0 H0 E) (fun cls d _ H => E cls d H) := L2N.takes_of rfl rfl rfl rfl
  exact ((pss_cons (ps_if (pt_not (pt_val (pe_cf F_is_word (hr.mono l_is_word) (kp_is_word T) (g_is_word T) at0 (pa_cons (pv 1) pa_nil)))) (pss_one (L2N.ps_raise rfl tkN (L2N.pmk_own PySem.F.excBase_ValueError (on_InvalidName T).ex (g_InvalidName T) (on_InvalidName T).kp (raises_own (on_InvalidName T).sb (on_InvalidName T).ty) rfl))) pss_nil)
      (pss_cons (ps_if (pt_cmpR op_notInG (pv 2) (pe_gr (g_KINDS T)) (by rfl)) (pss_one (L2N.ps_raise rfl tkN (L2N.pmk_own PySem.F.excBase_ValueError (on_OutOfRange T).ex (g_OutOfRange T) (on_OutOfRange T).kp (raises_own (on_OutOfRange T).sb (on_OutOfRange T).ty) rfl))) pss_nil)
      (pss_cons (ps_expr (pe_cf F_write_term (hr.mono l_write_term) (kp_write_term T) (g_write_term T) (fun σ => L2N.passAt tkN σ) (pa_cons (pv 3) pa_nil)))
      (pss_cons (ps_if (PW.pt (pw_or (pt_cmpR op_gt (pe_cf F_nesting (hr.mono l_nesting) (kp_nesting T) (g_nesting T) at0 (pa_cons (pv 3) (pa_cons pe_dnewK pa_nil))) (pe_gi (c_MOST_NESTING T)) (nomark _)) (pw_or1 (PW.pt (pw_and (pt_cmp (pc_dnotin (hu_of hr) (pv 1) (pv 0))) (pw_and1 (pt_cmpR op_ge (pe_callB call_lenG (by rfl) (m_len T) boot_len (pa_cons (pv 0) pa_nil)) (pe_gi (c_MOST_PAPERS T)) (nomark _)))))))) (pss_one (L2N.ps_raise rfl tkN (L2N.pmk_own PySem.F.excBase_ValueError (on_TooLarge T).ex (g_TooLarge T) (on_TooLarge T).kp (raises_own (on_TooLarge T).sb (on_TooLarge T).ty) rfl))) pss_nil)
      (pss_cons (ps_set (i := 4) sc_put_paper.nd rfl (by first | exact Or.inl rfl | exact Or.inr rfl) (pe_callTy call_dictG (by rfl) (m_dict T) (by decide +kernel) (pa_cons (pv 0) pa_nil)))
      (pss_cons (ps_dput (hu_of hr) (pv 4) (pv 1) (pe_tup (pa_cons (pv 2) (pa_cons (pv 3) pa_nil))) rfl)
      (pss_one (ps_ret (pv 4))))))))))
def t_drop_paper (K : PySem.W.Frag) (sp_UnknownName___init__ : Sp) (E : XK) : TS :=
  (tSeq (tIfS (tB (tDNotIn (tVar 1) (tVar 0))) (tRaiseI sp_UnknownName___init__ (He.ga K "UnknownName") E (tCons (tVar 1) tNil)) tNext)
    (tRet (tLockE (tDc (iKeys (tVar 0)) (gName 2) (tTest (tOp (rNeG K) (tVar 2) (tVar 1))) (tVar 2) (tDGet (tVar 0) (tVar 2)) [2]))))
theorem b_drop_paper {P : Program} {w : World} {K : PySem.W.Frag} {mg : Str → Option Value} {base : Heap} {k k_UnknownName___init__ : Nat} {sp_UnknownName___init__ : Sp} {fa : Addr} {cdv : Value} {A : Around} {outer : List Env} {s0 : Shared} {H0 : Hp} {E : XK} (T : TT K mg) (hr : Room k (A.deeper (envOfC q_drop_paper (defScope s_drop_paper) s0.heap.objs.size fa cdv)))
    (F_UnknownName___init__ : FnR P w K mg base CX0 k_UnknownName___init__ (He.ma K (He.ga K "UnknownName") "__init__") sp_UnknownName___init__) (l_UnknownName___init__ : k_UnknownName___init__ + 1 ≤ k) :
    PSs (cxOf (L2N.CX P w) P w K mg base N_drop_paper q_drop_paper (defScope s_drop_paper) fa cdv A outer s0 H0 E) (defBody s_drop_paper) (t_drop_paper K sp_UnknownName___init__ E) := by
  have tkN : L2N.Takes (cxOf (L2N.CX P w) P w K mg base N_drop_paper q_drop_paper (defScope s_drop_paper) fa cdv A outer s0 H0 E) (fun cls d _ H => E cls d H) := L2N.takes_of rfl rfl rfl rfl
  exact ((pss_cons (ps_if (pt_cmp (pc_dnotin (hu_of hr) (pv 1) (pv 0))) (pss_one (L2N.ps_raise rfl tkN (pmk_oexN (ot_UnknownName T).oc (ot_UnknownName T).ini (ot_UnknownName T).typ F_UnknownName___init__ (hr.mono l_UnknownName___init__) rfl (g_UnknownName T) (pa_cons (pv 1) pa_nil)))) pss_nil)
      (pss_one (ps_ret (pe_lock (pe_dc (own := [("other", 2)]) (g := gName 2) (tt := (tTest (tOp (rNeG K) (tVar 2) (tVar 1)))) rfl sc_drop_paper.nd (pi_keys (pv 0)) (blkOk_by (own := [("other", 2)]) (N := N_drop_paper) (sc := defScope s_drop_paper) (by decide +kernel)) (fun _ _ _ _ _ => pg_name (i := 2) sc_drop_paper.nd rfl (Or.inl rfl)) (fun _ _ _ _ _ => (pts_one (pt_cmpR (op_neG hr.units) (pv 2) (pv 1) (nomark _)))) (fun _ _ _ _ _ => (pv 2)) (fun _ _ _ _ _ => (pe_dget (hu_of hr) (pv 0) (pv 2) (fun _ _ => rfl)))))))))
def t_replace_name (K : PySem.W.Frag) (sp_replace_name : Sp) : TS :=
  (tSeq (tIfS (tTest (tOp (rEqG K) (tVar 0) (tVar 1))) (tRet (tTup (tCons (tOp (rIx K) (tVar 1) (tC (.int 0))) (tCons (tVar 2) tNil)))) tNext)
    (tSeq (tIfS (tNot (tB (tCB (rIsi K) (tCons (tVar 0) (tCons (tC (.ty "tuple")) tNil))))) (tRet (tVar 0)) tNext)
    (tRet (tThen (tLc (iTup K (tVar 0)) (gName 3) tYes (tCallR sp_replace_name (fun _ => E0) (tCons (tVar 3) (tCons (tVar 1) (tCons (tVar 2) tNil)))) [3]) (kTup K)))))
theorem b_replace_name {P : Program} {w : World} {K : PySem.W.Frag} {mg : Str → Option Value} {base : Heap} {k k_replace_name : Nat} {sp_replace_name : Sp} {fa : Addr} {cdv : Value} {A : Around} {outer : List Env} {s0 : Shared} {H0 : Hp} {E : XK} (T : TT K mg) (hr : Room k (A.deeper (envOfC q_replace_name (defScope s_replace_name) s0.heap.objs.size fa cdv)))
    (F_replace_name : FnR P w K mg base CX0 k_replace_name (He.ga K "replace_name") sp_replace_name) (l_replace_name : k_replace_name ≤ k) :
    PSs (cxOf CX0 P w K mg base N_replace_name q_replace_name (defScope s_replace_name) fa cdv A outer s0 H0 E).nox (defBody s_replace_name) (t_replace_name K sp_replace_name) := by
  exact ((pss_cons (ps_if (pt_cmpR (op_eqG hr.units) (pv 0) (pv 1) (nomark _)) (pss_one (ps_ret (pe_tup (pa_cons (pe_ix ix_seq (pv 1) pe_int (fun _ _ => rfl)) (pa_cons (pv 2) pa_nil))))) pss_nil)
      (pss_cons (ps_if (pt_not (pt_val (pe_callB call_isi (by rfl) (m_isinstance T) (by decide +kernel) (pa_cons (pv 0) (pa_cons (pe_bltn (v := .ty "tuple") rfl (m_tuple T) (by decide +kernel) rfl) pa_nil))))) (pss_one (ps_ret (pv 0))) pss_nil)
      (pss_one (ps_ret (pe_tupleOf rfl (m_tuple T) (pe_lc (own := [("item", 3)]) (g := gName 3) (tt := tYes) rfl sc_replace_name.nd (pi_tup (pv 0)) (blkOk_by (own := [("item", 3)]) (N := N_replace_name) (sc := defScope s_replace_name) (by decide +kernel)) (fun _ _ _ _ _ => pg_name (i := 3) sc_replace_name.nd rfl (Or.inl rfl)) (fun _ _ _ _ _ => pts_nil) (fun _ _ _ _ _ => (pe_cf F_replace_name (hr.mono l_replace_name) (kp_replace_name T) (g_replace_name T) at0 (pa_cons (pv 3) (pa_cons (pv 1) (pa_cons (pv 2) pa_nil))))))))))))
def t_rename_paper (K : PySem.W.Frag) (sp_UnknownName___init__ : Sp) (sp_is_word : Sp) (sp_NameTaken___init__ : Sp) (sp_replace_name : Sp) (E : XK) : TS :=
  (tSeq (tIfS (tB (tDNotIn (tVar 1) (tVar 0))) (tRaiseI sp_UnknownName___init__ (He.ga K "UnknownName") E (tCons (tVar 1) tNil)) tNext)
    (tSeq (tIfS (tNot (tB (tCallR sp_is_word (fun _ => E0) (tCons (tVar 2) tNil)))) (tRaiseO (He.ga K "InvalidName") E) tNext)
    (tSeq (tIfS (tB (tDIn (tVar 2) (tVar 0))) (tRaiseI sp_NameTaken___init__ (He.ga K "NameTaken") E (tCons (tVar 2) tNil)) tNext)
    (tSeq (tAsg (tTup (tCons (tOp (rIx K) (tDGet (tVar 0) (tVar 1)) (tC (.int 0))) (tCons (tVar 1) tNil))) (gName 3))
    (tSeq (tAsg tDNewK (gName 4))
    (tSeq (tLock (tFor (iKeys (tVar 0)) (gName 5) (tSeq (tAsg (tDGet (tVar 0) (tVar 5)) (gTup K 2 (gCons (gName 6) (gCons (gName 7) gNil))))
    (tSeq (tIfS (tTest (tOp (rEqG K) (tVar 5) (tVar 1))) (tAsg (tVar 2) (gName 5)) tNext)
    (sDPut (tVar 4) (tVar 5) (tTup (tCons (tVar 6) (tCons (tCallR sp_replace_name (fun _ => E0) (tCons (tVar 7) (tCons (tVar 3) (tCons (tVar 2) tNil)))) tNil))))))))
    (tRet (tVar 4))))))))
theorem b_rename_paper {P : Program} {w : World} {K : PySem.W.Frag} {mg : Str → Option Value} {base : Heap} {k k_UnknownName___init__ k_is_word k_NameTaken___init__ k_replace_name : Nat} {sp_UnknownName___init__ sp_is_word sp_NameTaken___init__ sp_replace_name : Sp} {fa : Addr} {cdv : Value} {A : Around} {outer : List Env} {s0 : Shared} {H0 : Hp} {E : XK} (T : TT K mg) (hr : Room k (A.deeper (envOfC q_rename_paper (defScope s_rename_paper) s0.heap.objs.size fa cdv)))
    (F_UnknownName___init__ : FnR P w K mg base CX0 k_UnknownName___init__ (He.ma K (He.ga K "UnknownName") "__init__") sp_UnknownName___init__) (l_UnknownName___init__ : k_UnknownName___init__ + 1 ≤ k)
    (F_is_word : FnR P w K mg base CX0 k_is_word (He.ga K "is_word") sp_is_word) (l_is_word : k_is_word ≤ k)
    (F_NameTaken___init__ : FnR P w K mg base CX0 k_NameTaken___init__ (He.ma K (He.ga K "NameTaken") "__init__") sp_NameTaken___init__) (l_NameTaken___init__ : k_NameTaken___init__ + 1 ≤ k)
    (F_replace_name : FnR P w K mg base CX0 k_replace_name (He.ga K "replace_name") sp_replace_name) (l_replace_name : k_replace_name ≤ k) :
    PSs (cxOf (L2N.CX P w) P w K mg base N_rename_paper q_rename_paper (defScope s_rename_paper) fa cdv A outer s0 H0 E) (defBody s_rename_paper) (t_rename_paper K sp_UnknownName___init__ sp_is_word sp_NameTaken___init__ sp_replace_name E) := by
  have tkN : L2N.Takes (cxOf (L2N.CX P w) P w K mg base N_rename_paper q_rename_paper (defScope s_rename_paper) fa cdv A outer s0 H0 E) (fun cls d _ H => E cls d H) := L2N.takes_of rfl rfl rfl rfl
  exact ((pss_cons (ps_if (pt_cmp (pc_dnotin (hu_of hr) (pv 1) (pv 0))) (pss_one (L2N.ps_raise rfl tkN (pmk_oexN (ot_UnknownName T).oc (ot_UnknownName T).ini (ot_UnknownName T).typ F_UnknownName___init__ (hr.mono l_UnknownName___init__) rfl (g_UnknownName T) (pa_cons (pv 1) pa_nil)))) pss_nil)
      (pss_cons (ps_if (pt_not (pt_val (pe_cf F_is_word (hr.mono l_is_word) (kp_is_word T) (g_is_word T) at0 (pa_cons (pv 2) pa_nil)))) (pss_one (L2N.ps_raise rfl tkN (L2N.pmk_own PySem.F.excBase_ValueError (on_InvalidName T).ex (g_InvalidName T) (on_InvalidName T).kp (raises_own (on_InvalidName T).sb (on_InvalidName T).ty) rfl))) pss_nil)
      (pss_cons (ps_if (pt_cmp (pc_din (hu_of hr) (pv 2) (pv 0))) (pss_one (L2N.ps_raise rfl tkN (pmk_oexN (ot_NameTaken T).oc (ot_NameTaken T).ini (ot_NameTaken T).typ F_NameTaken___init__ (hr.mono l_NameTaken___init__) rfl (g_NameTaken T) (pa_cons (pv 2) pa_nil)))) pss_nil)
      (pss_cons (ps_set (i := 3) sc_rename_paper.nd rfl (by first | exact Or.inl rfl | exact Or.inr rfl) (pe_tup (pa_cons (pe_ix ix_seq (pe_dget (hu_of hr) (pv 0) (pv 1) (fun _ _ => rfl)) pe_int (fun _ _ => rfl)) (pa_cons (pv 1) pa_nil))))
      (pss_cons (ps_set (i := 4) sc_rename_paper.nd rfl (by first | exact Or.inl rfl | exact Or.inr rfl) pe_dnewK)
      (pss_cons (ps_lock (ps_for (L2.passes_of rfl) rfl (pi_keys (pv 0)) (pg_name (i := 5) sc_rename_paper.nd rfl (by first | exact Or.inl rfl | exact Or.inr rfl)) (pss_cons (ps_asg (pe_dget (hu_of hr) (pv 0) (pv 5) (fun _ _ => rfl)) (pg_tup rfl (pgs_cons (pg_name (i := 6) sc_rename_paper.nd rfl (by first | exact Or.inl rfl | exact Or.inr rfl)) (pgs_cons (pg_name (i := 7) sc_rename_paper.nd rfl (by first | exact Or.inl rfl | exact Or.inr rfl)) pgs_nil))))
      (pss_cons (ps_if (pt_cmpR (op_eqG hr.units) (pv 5) (pv 1) (nomark _)) (pss_one (ps_set (i := 5) sc_rename_paper.nd rfl (by first | exact Or.inl rfl | exact Or.inr rfl) (pv 2))) pss_nil)
      (pss_one (ps_dput (hu_of hr) (pv 4) (pv 5) (pe_tup (pa_cons (pv 6) (pa_cons (pe_cf F_replace_name (hr.mono l_replace_name) (kp_replace_name T) (g_replace_name T) at0 (pa_cons (pv 7) (pa_cons (pv 3) (pa_cons (pv 2) pa_nil)))) pa_nil))) rfl))))))
      (pss_one (ps_ret (pv 4))))))))))
def t_Desk___init__ (K : PySem.W.Frag) (E : XK) : TS :=
  (tSeq (tIfS (tNot (tTest (tChain rLe rLe (tC (.int 1)) (tVar 1) (tC (.int 4))))) (tRaiseO (He.ga K "OutOfRange") E) tNext)
    (tSeq (sFld K (tVar 0) (tVar 1) "outcomes")
    (tSeq (sFld K (tVar 0) tDNewK "_papers")
    (tSeq (sFld K (tVar 0) (tLst tNil) "_done")
    (tSeq (sFld K (tVar 0) (tLst tNil) "_undone")
    (sFld K (tVar 0) (tC (.int 20)) "_limit"))))))
theorem b_Desk___init__ {P : Program} {w : World} {K : PySem.W.Frag} {mg : Str → Option Value} {base : Heap} {k : Nat} {fa : Addr} {cdv : Value} {A : Around} {outer : List Env} {s0 : Shared} {H0 : Hp} {E : XK} (T : TT K mg) (hr : Room k (A.deeper (envOfC q_Desk___init__ (defScope s_Desk___init__) s0.heap.objs.size fa cdv)))
     :
    PSs (cxOf (L2N.CX P w) P w K mg base N_Desk___init__ q_Desk___init__ (defScope s_Desk___init__) fa cdv A outer s0 H0 E) (defBody s_Desk___init__) (t_Desk___init__ K E) := by
  have tkN : L2N.Takes (cxOf (L2N.CX P w) P w K mg base N_Desk___init__ q_Desk___init__ (defScope s_Desk___init__) fa cdv A outer s0 H0 E) (fun cls d _ H => E cls d H) := L2N.takes_of rfl rfl rfl rfl
  exact ((pss_cons (ps_if (pt_not (pt_chain op_le op_le pe_int (pv 1) pe_int)) (pss_one (L2N.ps_raise rfl tkN (L2N.pmk_own PySem.F.excBase_ValueError (on_OutOfRange T).ex (g_OutOfRange T) (on_OutOfRange T).kp (raises_own (on_OutOfRange T).sb (on_OutOfRange T).ty) rfl))) pss_nil)
      (pss_cons (ps_fld (pv 0) (pv 1) rfl)
      (pss_cons (ps_fld (pv 0) pe_dnewK rfl)
      (pss_cons (ps_fld (pv 0) (pe_lst pa_nil) rfl)
      (pss_cons (ps_fld (pv 0) (pe_lst pa_nil) rfl)
      (pss_one (ps_fld (pv 0) (pe_gi (c_FIRST_LIMIT T)) rfl))))))))
def t_Desk_names (K : PySem.W.Frag) : TS :=
  (tRet (tThen (tCB (rSortedS K) (tCons (tCB (rListG K) (tCons (tFld K (tVar 0) "_papers") tNil)) tNil)) (kTup K)))
theorem b_Desk_names {P : Program} {w : World} {K : PySem.W.Frag} {mg : Str → Option Value} {base : Heap} {k : Nat} {fa : Addr} {cdv : Value} {A : Around} {outer : List Env} {s0 : Shared} {H0 : Hp} {E : XK} (T : TT K mg) (hr : Room k (A.deeper (envOfC q_Desk_names (defScope s_Desk_names) s0.heap.objs.size fa cdv)))
     :
    PSs (cxOf CX0 P w K mg base N_Desk_names q_Desk_names (defScope s_Desk_names) fa cdv A outer s0 H0 E).nox (defBody s_Desk_names) (t_Desk_names K) := by
  exact ((pss_one (ps_ret (pe_tupleOf rfl (m_tuple T) (pe_callB cr_sortedS (by rfl) (m_sorted T) (by decide +kernel) (pa_cons (pe_callTy (call_listG rfl) (by rfl) (m_list T) (by decide +kernel) (pa_cons (pe_fld (pv 0) rfl) pa_nil)) pa_nil))))))
def t_Desk_steps (K : PySem.W.Frag) : TS :=
  (tRet (tCB (rLenG K) (tCons (tFld K (tVar 0) "_done") tNil)))
theorem b_Desk_steps {P : Program} {w : World} {K : PySem.W.Frag} {mg : Str → Option Value} {base : Heap} {k : Nat} {fa : Addr} {cdv : Value} {A : Around} {outer : List Env} {s0 : Shared} {H0 : Hp} {E : XK} (T : TT K mg) (hr : Room k (A.deeper (envOfC q_Desk_steps (defScope s_Desk_steps) s0.heap.objs.size fa cdv)))
     :
    PSs (cxOf CX0 P w K mg base N_Desk_steps q_Desk_steps (defScope s_Desk_steps) fa cdv A outer s0 H0 E).nox (defBody s_Desk_steps) (t_Desk_steps K) := by
  exact ((pss_one (ps_ret (pe_callB call_lenG (by rfl) (m_len T) boot_len (pa_cons (pe_fld (pv 0) rfl) pa_nil)))))
def t_Desk_undone (K : PySem.W.Frag) : TS :=
  (tRet (tCB (rLenG K) (tCons (tFld K (tVar 0) "_undone") tNil)))
theorem b_Desk_undone {P : Program} {w : World} {K : PySem.W.Frag} {mg : Str → Option Value} {base : Heap} {k : Nat} {fa : Addr} {cdv : Value} {A : Around} {outer : List Env} {s0 : Shared} {H0 : Hp} {E : XK} (T : TT K mg) (hr : Room k (A.deeper (envOfC q_Desk_undone (defScope s_Desk_undone) s0.heap.objs.size fa cdv)))
     :
    PSs (cxOf CX0 P w K mg base N_Desk_undone q_Desk_undone (defScope s_Desk_undone) fa cdv A outer s0 H0 E).nox (defBody s_Desk_undone) (t_Desk_undone K) := by
  exact ((pss_one (ps_ret (pe_callB call_lenG (by rfl) (m_len T) boot_len (pa_cons (pe_fld (pv 0) rfl) pa_nil)))))
def t_Desk_limit (K : PySem.W.Frag) : TS :=
  (tRet (tFld K (tVar 0) "_limit"))
theorem b_Desk_limit {P : Program} {w : World} {K : PySem.W.Frag} {mg : Str → Option Value} {base : Heap} {k : Nat} {fa : Addr} {cdv : Value} {A : Around} {outer : List Env} {s0 : Shared} {H0 : Hp} {E : XK} (T : TT K mg) (hr : Room k (A.deeper (envOfC q_Desk_limit (defScope s_Desk_limit) s0.heap.objs.size fa cdv)))
     :
    PSs (cxOf CX0 P w K mg base N_Desk_limit q_Desk_limit (defScope s_Desk_limit) fa cdv A outer s0 H0 E).nox (defBody s_Desk_limit) (t_Desk_limit K) := by
  exact ((pss_one (ps_ret (pe_fld (pv 0) rfl))))
def t_Desk_limit_set (K : PySem.W.Frag) (E : XK) : TS :=
  (tSeq (tIfS (tNot (tTest (tChain rLe rLe (tC (.int 1)) (tVar 1) (tC (.int 100))))) (tRaiseO (He.ga K "OutOfRange") E) tNext)
    (tSeq (sFld K (tVar 0) (tVar 1) "_limit")
    (sFld K (tVar 0) (L2.tSl (rSlG K) (tFld K (tVar 0) "_done") (tPart (tUn (rU fun i => .int (-i)) (tVar 1))) tNoPart) "_done")))
theorem b_Desk_limit_set {P : Program} {w : World} {K : PySem.W.Frag} {mg : Str → Option Value} {base : Heap} {k : Nat} {fa : Addr} {cdv : Value} {A : Around} {outer : List Env} {s0 : Shared} {H0 : Hp} {E : XK} (T : TT K mg) (hr : Room k (A.deeper (envOfC q_Desk_limit_set (defScope s_Desk_limit_set) s0.heap.objs.size fa cdv)))
     :
    PSs (cxOf (L2N.CX P w) P w K mg base N_Desk_limit_set q_Desk_limit_set (defScope s_Desk_limit_set) fa cdv A outer s0 H0 E) (defBody s_Desk_limit_set) (t_Desk_limit_set K E) := by
  have tkN : L2N.Takes (cxOf (L2N.CX P w) P w K mg base N_Desk_limit_set q_Desk_limit_set (defScope s_Desk_limit_set) fa cdv A outer s0 H0 E) (fun cls d _ H => E cls d H) := L2N.takes_of rfl rfl rfl rfl
  exact ((pss_cons (ps_if (pt_not (pt_chain op_le op_le pe_int (pv 1) (pe_gi (c_MOST_STEPS T)))) (pss_one (L2N.ps_raise rfl tkN (L2N.pmk_own PySem.F.excBase_ValueError (on_OutOfRange T).ex (g_OutOfRange T) (on_OutOfRange T).kp (raises_own (on_OutOfRange T).sb (on_OutOfRange T).ty) rfl))) pss_nil)
      (pss_cons (ps_fld (pv 0) (pv 1) rfl)
      (pss_one (ps_fld (pv 0) (pe_slice sl_G (pe_fld (pv 0) rfl) (po_some (pe_un un_neg (pv 1))) po_none) rfl)))))
def t_Desk_kind_of (K : PySem.W.Frag) (sp_Desk__paper : Sp) (E : XK) : TS :=
  (tRet (tOp (rIx K) (tMethA (He.ga K "Desk") "_paper" sp_Desk__paper (fun _ => E) (tVar 0) (tCons (tVar 1) tNil)) (tC (.int 0))))
theorem b_Desk_kind_of {P : Program} {w : World} {K : PySem.W.Frag} {mg : Str → Option Value} {base : Heap} {k k_Desk__paper : Nat} {sp_Desk__paper : Sp} {fa : Addr} {cdv : Value} {A : Around} {outer : List Env} {s0 : Shared} {H0 : Hp} {E : XK} (T : TT K mg) (hr : Room k (A.deeper (envOfC q_Desk_kind_of (defScope s_Desk_kind_of) s0.heap.objs.size fa cdv)))
    (F_Desk__paper : FnR P w K mg base (L2N.CX P w) k_Desk__paper (He.ma K (He.ga K "Desk") "_paper") sp_Desk__paper) (l_Desk__paper : k_Desk__paper ≤ k) :
    PSs (cxOf (L2N.CX P w) P w K mg base N_Desk_kind_of q_Desk_kind_of (defScope s_Desk_kind_of) fa cdv A outer s0 H0 E) (defBody s_Desk_kind_of) (t_Desk_kind_of K sp_Desk__paper E) := by
  have tkN : L2N.Takes (cxOf (L2N.CX P w) P w K mg base N_Desk_kind_of q_Desk_kind_of (defScope s_Desk_kind_of) fa cdv A outer s0 H0 E) (fun cls d _ H => E cls d H) := L2N.takes_of rfl rfl rfl rfl
  exact ((pss_one (ps_ret (pe_ix ix_seq (pe_cm (pv 0) (cl_Desk T) (mt_Desk__paper T) F_Desk__paper (hr.mono l_Desk__paper) (fun σ => L2N.passAt tkN σ) (pa_cons (pv 1) pa_nil)) pe_int (fun _ _ => rfl)))))
def t_Desk_term_of (K : PySem.W.Frag) (sp_Desk__paper : Sp) (E : XK) : TS :=
  (tRet (tOp (rIx K) (tMethA (He.ga K "Desk") "_paper" sp_Desk__paper (fun _ => E) (tVar 0) (tCons (tVar 1) tNil)) (tC (.int 1))))
theorem b_Desk_term_of {P : Program} {w : World} {K : PySem.W.Frag} {mg : Str → Option Value} {base : Heap} {k k_Desk__paper : Nat} {sp_Desk__paper : Sp} {fa : Addr} {cdv : Value} {A : Around} {outer : List Env} {s0 : Shared} {H0 : Hp} {E : XK} (T : TT K mg) (hr : Room k (A.deeper (envOfC q_Desk_term_of (defScope s_Desk_term_of) s0.heap.objs.size fa cdv)))
    (F_Desk__paper : FnR P w K mg base (L2N.CX P w) k_Desk__paper (He.ma K (He.ga K "Desk") "_paper") sp_Desk__paper) (l_Desk__paper : k_Desk__paper ≤ k) :
    PSs (cxOf (L2N.CX P w) P w K mg base N_Desk_term_of q_Desk_term_of (defScope s_Desk_term_of) fa cdv A outer s0 H0 E) (defBody s_Desk_term_of) (t_Desk_term_of K sp_Desk__paper E) := by
  have tkN : L2N.Takes (cxOf (L2N.CX P w) P w K mg base N_Desk_term_of q_Desk_term_of (defScope s_Desk_term_of) fa cdv A outer s0 H0 E) (fun cls d _ H => E cls d H) := L2N.takes_of rfl rfl rfl rfl
  exact ((pss_one (ps_ret (pe_ix ix_seq (pe_cm (pv 0) (cl_Desk T) (mt_Desk__paper T) F_Desk__paper (hr.mono l_Desk__paper) (fun σ => L2N.passAt tkN σ) (pa_cons (pv 1) pa_nil)) pe_int (fun _ _ => rfl)))))
def t_Desk__paper (K : PySem.W.Frag) (sp_UnknownName___init__ : Sp) (E : XK) : TS :=
  (tSeq (tIfS (tB (tDNotIn (tVar 1) (tFld K (tVar 0) "_papers"))) (tRaiseI sp_UnknownName___init__ (He.ga K "UnknownName") E (tCons (tVar 1) tNil)) tNext)
    (tRet (tDGet (tFld K (tVar 0) "_papers") (tVar 1))))
theorem b_Desk__paper {P : Program} {w : World} {K : PySem.W.Frag} {mg : Str → Option Value} {base : Heap} {k k_UnknownName___init__ : Nat} {sp_UnknownName___init__ : Sp} {fa : Addr} {cdv : Value} {A : Around} {outer : List Env} {s0 : Shared} {H0 : Hp} {E : XK} (T : TT K mg) (hr : Room k (A.deeper (envOfC q_Desk__paper (defScope s_Desk__paper) s0.heap.objs.size fa cdv)))
    (F_UnknownName___init__ : FnR P w K mg base CX0 k_UnknownName___init__ (He.ma K (He.ga K "UnknownName") "__init__") sp_UnknownName___init__) (l_UnknownName___init__ : k_UnknownName___init__ + 1 ≤ k) :
    PSs (cxOf (L2N.CX P w) P w K mg base N_Desk__paper q_Desk__paper (defScope s_Desk__paper) fa cdv A outer s0 H0 E) (defBody s_Desk__paper) (t_Desk__paper K sp_UnknownName___init__ E) := by
  have tkN : L2N.Takes (cxOf (L2N.CX P w) P w K mg base N_Desk__paper q_Desk__paper (defScope s_Desk__paper) fa cdv A outer s0 H0 E) (fun cls d _ H => E cls d H) := L2N.takes_of rfl rfl rfl rfl
  exact ((pss_cons (ps_if (pt_cmp (pc_dnotin (hu_of hr) (pv 1) (pe_fld (pv 0) rfl))) (pss_one (L2N.ps_raise rfl tkN (pmk_oexN (ot_UnknownName T).oc (ot_UnknownName T).ini (ot_UnknownName T).typ F_UnknownName___init__ (hr.mono l_UnknownName___init__) rfl (g_UnknownName T) (pa_cons (pv 1) pa_nil)))) pss_nil)
      (pss_one (ps_ret (pe_dget (hu_of hr) (pe_fld (pv 0) rfl) (pv 1) (fun _ _ => rfl))))))
def t_Desk__take_step (K : PySem.W.Frag) : TS :=
  (tSeq (tDrop (tBM K "list" rAppend (tFld K (tVar 0) "_done") (tCons (tFld K (tVar 0) "_papers") tNil)))
    (tSeq (sFld K (tVar 0) (L2.tSl (rSlG K) (tFld K (tVar 0) "_done") (tPart (tUn (rU fun i => .int (-i)) (tFld K (tVar 0) "_limit"))) tNoPart) "_done")
    (tSeq (sFld K (tVar 0) (tLst tNil) "_undone")
    (sFld K (tVar 0) (tVar 1) "_papers"))))
theorem b_Desk__take_step {P : Program} {w : World} {K : PySem.W.Frag} {mg : Str → Option Value} {base : Heap} {k : Nat} {fa : Addr} {cdv : Value} {A : Around} {outer : List Env} {s0 : Shared} {H0 : Hp} {E : XK} (T : TT K mg) (hr : Room k (A.deeper (envOfC q_Desk__take_step (defScope s_Desk__take_step) s0.heap.objs.size fa cdv)))
     :
    PSs (cxOf CX0 P w K mg base N_Desk__take_step q_Desk__take_step (defScope s_Desk__take_step) fa cdv A outer s0 H0 E).nox (defBody s_Desk__take_step) (t_Desk__take_step K) := by
  exact ((pss_cons (ps_expr (pe_bm PySem.F.plainAttrs_list PySem.F.slot_list_append PySem.F.type_list_append mt_append (pe_fld (pv 0) rfl) (pa_cons (pe_fld (pv 0) rfl) pa_nil)))
      (pss_cons (ps_fld (pv 0) (pe_slice sl_G (pe_fld (pv 0) rfl) (po_some (pe_un un_neg (pe_fld (pv 0) rfl))) po_none) rfl)
      (pss_cons (ps_fld (pv 0) (pe_lst pa_nil) rfl)
      (pss_one (ps_fld (pv 0) (pv 1) rfl))))))
def t_Desk_put (K : PySem.W.Frag) (sp_Desk__take_step : Sp) (sp_put_paper : Sp) (E : XK) : TS :=
  (tDrop (tMethA (He.ga K "Desk") "_take_step" sp_Desk__take_step (fun _ => E0) (tVar 0) (tCons (tCallR sp_put_paper (fun _ => E) (tCons (tFld K (tVar 0) "_papers") (tCons (tVar 1) (tCons (tVar 2) (tCons (tVar 3) tNil))))) tNil)))
theorem b_Desk_put {P : Program} {w : World} {K : PySem.W.Frag} {mg : Str → Option Value} {base : Heap} {k k_Desk__take_step k_put_paper : Nat} {sp_Desk__take_step sp_put_paper : Sp} {fa : Addr} {cdv : Value} {A : Around} {outer : List Env} {s0 : Shared} {H0 : Hp} {E : XK} (T : TT K mg) (hr : Room k (A.deeper (envOfC q_Desk_put (defScope s_Desk_put) s0.heap.objs.size fa cdv)))
    (F_Desk__take_step : FnR P w K mg base CX0 k_Desk__take_step (He.ma K (He.ga K "Desk") "_take_step") sp_Desk__take_step) (l_Desk__take_step : k_Desk__take_step ≤ k)
    (F_put_paper : FnR P w K mg base (L2N.CX P w) k_put_paper (He.ga K "put_paper") sp_put_paper) (l_put_paper : k_put_paper ≤ k) :
    PSs (cxOf (L2N.CX P w) P w K mg base N_Desk_put q_Desk_put (defScope s_Desk_put) fa cdv A outer s0 H0 E) (defBody s_Desk_put) (t_Desk_put K sp_Desk__take_step sp_put_paper E) := by
  have tkN : L2N.Takes (cxOf (L2N.CX P w) P w K mg base N_Desk_put q_Desk_put (defScope s_Desk_put) fa cdv A outer s0 H0 E) (fun cls d _ H => E cls d H) := L2N.takes_of rfl rfl rfl rfl
  exact ((pss_one (ps_expr (pe_cm (pv 0) (cl_Desk T) (mt_Desk__take_step T) F_Desk__take_step (hr.mono l_Desk__take_step) at0 (pa_cons (pe_cf F_put_paper (hr.mono l_put_paper) (kp_put_paper T) (g_put_paper T) (fun σ => L2N.passAt tkN σ) (pa_cons (pe_fld (pv 0) rfl) (pa_cons (pv 1) (pa_cons (pv 2) (pa_cons (pv 3) pa_nil))))) pa_nil)))))
def t_Desk_drop (K : PySem.W.Frag) (sp_Desk__take_step : Sp) (sp_drop_paper : Sp) (E : XK) : TS :=
  (tDrop (tMethA (He.ga K "Desk") "_take_step" sp_Desk__take_step (fun _ => E0) (tVar 0) (tCons (tCallR sp_drop_paper (fun _ => E) (tCons (tFld K (tVar 0) "_papers") (tCons (tVar 1) tNil))) tNil)))
theorem b_Desk_drop {P : Program} {w : World} {K : PySem.W.Frag} {mg : Str → Option Value} {base : Heap} {k k_Desk__take_step k_drop_paper : Nat} {sp_Desk__take_step sp_drop_paper : Sp} {fa : Addr} {cdv : Value} {A : Around} {outer : List Env} {s0 : Shared} {H0 : Hp} {E : XK} (T : TT K mg) (hr : Room k (A.deeper (envOfC q_Desk_drop (defScope s_Desk_drop) s0.heap.objs.size fa cdv)))
    (F_Desk__take_step : FnR P w K mg base CX0 k_Desk__take_step (He.ma K (He.ga K "Desk") "_take_step") sp_Desk__take_step) (l_Desk__take_step : k_Desk__take_step ≤ k)
    (F_drop_paper : FnR P w K mg base (L2N.CX P w) k_drop_paper (He.ga K "drop_paper") sp_drop_paper) (l_drop_paper : k_drop_paper ≤ k) :
    PSs (cxOf (L2N.CX P w) P w K mg base N_Desk_drop q_Desk_drop (defScope s_Desk_drop) fa cdv A outer s0 H0 E) (defBody s_Desk_drop) (t_Desk_drop K sp_Desk__take_step sp_drop_paper E) := by
  have tkN : L2N.Takes (cxOf (L2N.CX P w) P w K mg base N_Desk_drop q_Desk_drop (defScope s_Desk_drop) fa cdv A outer s0 H0 E) (fun cls d _ H => E cls d H) := L2N.takes_of rfl rfl rfl rfl
  exact ((pss_one (ps_expr (pe_cm (pv 0) (cl_Desk T) (mt_Desk__take_step T) F_Desk__take_step (hr.mono l_Desk__take_step) at0 (pa_cons (pe_cf F_drop_paper (hr.mono l_drop_paper) (kp_drop_paper T) (g_drop_paper T) (fun σ => L2N.passAt tkN σ) (pa_cons (pe_fld (pv 0) rfl) (pa_cons (pv 1) pa_nil))) pa_nil)))))
def t_Desk_rename (K : PySem.W.Frag) (sp_Desk__take_step : Sp) (sp_rename_paper : Sp) (E : XK) : TS :=
  (tDrop (tMethA (He.ga K "Desk") "_take_step" sp_Desk__take_step (fun _ => E0) (tVar 0) (tCons (tCallR sp_rename_paper (fun _ => E) (tCons (tFld K (tVar 0) "_papers") (tCons (tVar 1) (tCons (tVar 2) tNil)))) tNil)))
theorem b_Desk_rename {P : Program} {w : World} {K : PySem.W.Frag} {mg : Str → Option Value} {base : Heap} {k k_Desk__take_step k_rename_paper : Nat} {sp_Desk__take_step sp_rename_paper : Sp} {fa : Addr} {cdv : Value} {A : Around} {outer : List Env} {s0 : Shared} {H0 : Hp} {E : XK} (T : TT K mg) (hr : Room k (A.deeper (envOfC q_Desk_rename (defScope s_Desk_rename) s0.heap.objs.size fa cdv)))
    (F_Desk__take_step : FnR P w K mg base CX0 k_Desk__take_step (He.ma K (He.ga K "Desk") "_take_step") sp_Desk__take_step) (l_Desk__take_step : k_Desk__take_step ≤ k)
    (F_rename_paper : FnR P w K mg base (L2N.CX P w) k_rename_paper (He.ga K "rename_paper") sp_rename_paper) (l_rename_paper : k_rename_paper ≤ k) :
    PSs (cxOf (L2N.CX P w) P w K mg base N_Desk_rename q_Desk_rename (defScope s_Desk_rename) fa cdv A outer s0 H0 E) (defBody s_Desk_rename) (t_Desk_rename K sp_Desk__take_step sp_rename_paper E) := by
  have tkN : L2N.Takes (cxOf (L2N.CX P w) P w K mg base N_Desk_rename q_Desk_rename (defScope s_Desk_rename) fa cdv A outer s0 H0 E) (fun cls d _ H => E cls d H) := L2N.takes_of rfl rfl rfl rfl
  exact ((pss_one (ps_expr (pe_cm (pv 0) (cl_Desk T) (mt_Desk__take_step T) F_Desk__take_step (hr.mono l_Desk__take_step) at0 (pa_cons (pe_cf F_rename_paper (hr.mono l_rename_paper) (kp_rename_paper T) (g_rename_paper T) (fun σ => L2N.passAt tkN σ) (pa_cons (pe_fld (pv 0) rfl) (pa_cons (pv 1) (pa_cons (pv 2) pa_nil)))) pa_nil)))))
def t_Desk_undo (K : PySem.W.Frag) (E : XK) : TS :=
  (tSeq (tIfS (tTest (tOp (rEqG K) (tCB (rLenG K) (tCons (tFld K (tVar 0) "_done") tNil)) (tC (.int 0)))) (tRaiseO (He.ga K "NoStep") E) tNext)
    (tSeq (tDrop (tBM K "list" rAppend (tFld K (tVar 0) "_undone") (tCons (tFld K (tVar 0) "_papers") tNil)))
    (sFld K (tVar 0) (tBM0 K "list" rPop (tFld K (tVar 0) "_done")) "_papers")))
theorem b_Desk_undo {P : Program} {w : World} {K : PySem.W.Frag} {mg : Str → Option Value} {base : Heap} {k : Nat} {fa : Addr} {cdv : Value} {A : Around} {outer : List Env} {s0 : Shared} {H0 : Hp} {E : XK} (T : TT K mg) (hr : Room k (A.deeper (envOfC q_Desk_undo (defScope s_Desk_undo) s0.heap.objs.size fa cdv)))
     :
    PSs (cxOf (L2N.CX P w) P w K mg base N_Desk_undo q_Desk_undo (defScope s_Desk_undo) fa cdv A outer s0 H0 E) (defBody s_Desk_undo) (t_Desk_undo K E) := by
  have tkN : L2N.Takes (cxOf (L2N.CX P w) P w K mg base N_Desk_undo q_Desk_undo (defScope s_Desk_undo) fa cdv A outer s0 H0 E) (fun cls d _ H => E cls d H) := L2N.takes_of rfl rfl rfl rfl
  exact ((pss_cons (ps_if (pt_cmpR (op_eqG hr.units) (pe_callB call_lenG (by rfl) (m_len T) boot_len (pa_cons (pe_fld (pv 0) rfl) pa_nil)) pe_int (nomark _)) (pss_one (L2N.ps_raise rfl tkN (L2N.pmk_own PySem.F.excBase_ValueError (on_NoStep T).ex (g_NoStep T) (on_NoStep T).kp (raises_own (on_NoStep T).sb (on_NoStep T).ty) rfl))) pss_nil)
      (pss_cons (ps_expr (pe_bm PySem.F.plainAttrs_list PySem.F.slot_list_append PySem.F.type_list_append mt_append (pe_fld (pv 0) rfl) (pa_cons (pe_fld (pv 0) rfl) pa_nil)))
      (pss_one (ps_fld (pv 0) (pe_bm0 PySem.F.plainAttrs_list PySem.F.slot_list_pop PySem.F.type_list_pop mt_pop (pe_fld (pv 0) rfl)) rfl)))))
def t_Desk_redo (K : PySem.W.Frag) (E : XK) : TS :=
  (tSeq (tIfS (tTest (tOp (rEqG K) (tCB (rLenG K) (tCons (tFld K (tVar 0) "_undone") tNil)) (tC (.int 0)))) (tRaiseO (He.ga K "NoStep") E) tNext)
    (tSeq (tDrop (tBM K "list" rAppend (tFld K (tVar 0) "_done") (tCons (tFld K (tVar 0) "_papers") tNil)))
    (tSeq (sFld K (tVar 0) (L2.tSl (rSlG K) (tFld K (tVar 0) "_done") (tPart (tUn (rU fun i => .int (-i)) (tFld K (tVar 0) "_limit"))) tNoPart) "_done")
    (sFld K (tVar 0) (tBM0 K "list" rPop (tFld K (tVar 0) "_undone")) "_papers"))))
theorem b_Desk_redo {P : Program} {w : World} {K : PySem.W.Frag} {mg : Str → Option Value} {base : Heap} {k : Nat} {fa : Addr} {cdv : Value} {A : Around} {outer : List Env} {s0 : Shared} {H0 : Hp} {E : XK} (T : TT K mg) (hr : Room k (A.deeper (envOfC q_Desk_redo (defScope s_Desk_redo) s0.heap.objs.size fa cdv)))
     :
    PSs (cxOf (L2N.CX P w) P w K mg base N_Desk_redo q_Desk_redo (defScope s_Desk_redo) fa cdv A outer s0 H0 E) (defBody s_Desk_redo) (t_Desk_redo K E) := by
  have tkN : L2N.Takes (cxOf (L2N.CX P w) P w K mg base N_Desk_redo q_Desk_redo (defScope s_Desk_redo) fa cdv A outer s0 H0 E) (fun cls d _ H => E cls d H) := L2N.takes_of rfl rfl rfl rfl
  exact ((pss_cons (ps_if (pt_cmpR (op_eqG hr.units) (pe_callB call_lenG (by rfl) (m_len T) boot_len (pa_cons (pe_fld (pv 0) rfl) pa_nil)) pe_int (nomark _)) (pss_one (L2N.ps_raise rfl tkN (L2N.pmk_own PySem.F.excBase_ValueError (on_NoStep T).ex (g_NoStep T) (on_NoStep T).kp (raises_own (on_NoStep T).sb (on_NoStep T).ty) rfl))) pss_nil)
      (pss_cons (ps_expr (pe_bm PySem.F.plainAttrs_list PySem.F.slot_list_append PySem.F.type_list_append mt_append (pe_fld (pv 0) rfl) (pa_cons (pe_fld (pv 0) rfl) pa_nil)))
      (pss_cons (ps_fld (pv 0) (pe_slice sl_G (pe_fld (pv 0) rfl) (po_some (pe_un un_neg (pe_fld (pv 0) rfl))) po_none) rfl)
      (pss_one (ps_fld (pv 0) (pe_bm0 PySem.F.plainAttrs_list PySem.F.slot_list_pop PySem.F.type_list_pop mt_pop (pe_fld (pv 0) rfl)) rfl))))))
def t_edited (K : PySem.W.Frag) (sp_put_paper : Sp) (sp_drop_paper : Sp) (sp_rename_paper : Sp) (E : XK) : TS :=
  (tSeq (tIfS (tTest (tOp (rEqG K) (tOp (rIx K) (tVar 1) (tC (.int 0))) (tC (.str (PySem.Str.ofString "put"))))) (tRet (tCallR sp_put_paper (fun _ => E) (tCons (tVar 0) (tCons (tOp (rIx K) (tVar 1) (tC (.int 1))) (tCons (tOp (rIx K) (tVar 1) (tC (.int 2))) (tCons (tOp (rIx K) (tVar 1) (tC (.int 3))) tNil)))))) tNext)
    (tSeq (tIfS (tTest (tOp (rEqG K) (tOp (rIx K) (tVar 1) (tC (.int 0))) (tC (.str (PySem.Str.ofString "drop"))))) (tRet (tCallR sp_drop_paper (fun _ => E) (tCons (tVar 0) (tCons (tOp (rIx K) (tVar 1) (tC (.int 1))) tNil)))) tNext)
    (tRet (tCallR sp_rename_paper (fun _ => E) (tCons (tVar 0) (tCons (tOp (rIx K) (tVar 1) (tC (.int 1))) (tCons (tOp (rIx K) (tVar 1) (tC (.int 2))) tNil)))))))
theorem b_edited {P : Program} {w : World} {K : PySem.W.Frag} {mg : Str → Option Value} {base : Heap} {k k_put_paper k_drop_paper k_rename_paper : Nat} {sp_put_paper sp_drop_paper sp_rename_paper : Sp} {fa : Addr} {cdv : Value} {A : Around} {outer : List Env} {s0 : Shared} {H0 : Hp} {E : XK} (T : TT K mg) (hr : Room k (A.deeper (envOfC q_edited (defScope s_edited) s0.heap.objs.size fa cdv)))
    (F_put_paper : FnR P w K mg base (L2N.CX P w) k_put_paper (He.ga K "put_paper") sp_put_paper) (l_put_paper : k_put_paper ≤ k)
    (F_drop_paper : FnR P w K mg base (L2N.CX P w) k_drop_paper (He.ga K "drop_paper") sp_drop_paper) (l_drop_paper : k_drop_paper ≤ k)
    (F_rename_paper : FnR P w K mg base (L2N.CX P w) k_rename_paper (He.ga K "rename_paper") sp_rename_paper) (l_rename_paper : k_rename_paper ≤ k) :
    PSs (cxOf (L2N.CX P w) P w K mg base N_edited q_edited (defScope s_edited) fa cdv A outer s0 H0 E) (defBody s_edited) (t_edited K sp_put_paper sp_drop_paper sp_rename_paper E) := by
  have tkN : L2N.Takes (cxOf (L2N.CX P w) P w K mg base N_edited q_edited (defScope s_edited) fa cdv A outer s0 H0 E) (fun cls d _ H => E cls d H) := L2N.takes_of rfl rfl rfl rfl
  exact ((pss_cons (ps_if (pt_cmpR (op_eqG hr.units) (pe_ix ix_seq (pv 1) pe_int (fun _ _ => rfl)) pe_str (nomark _)) (pss_one (ps_ret (pe_cf F_put_paper (hr.mono l_put_paper) (kp_put_paper T) (g_put_paper T) (fun σ => L2N.passAt tkN σ) (pa_cons (pv 0) (pa_cons (pe_ix ix_seq (pv 1) pe_int (fun _ _ => rfl)) (pa_cons (pe_ix ix_seq (pv 1) pe_int (fun _ _ => rfl)) (pa_cons (pe_ix ix_seq (pv 1) pe_int (fun _ _ => rfl)) pa_nil))))))) pss_nil)
      (pss_cons (ps_if (pt_cmpR (op_eqG hr.units) (pe_ix ix_seq (pv 1) pe_int (fun _ _ => rfl)) pe_str (nomark _)) (pss_one (ps_ret (pe_cf F_drop_paper (hr.mono l_drop_paper) (kp_drop_paper T) (g_drop_paper T) (fun σ => L2N.passAt tkN σ) (pa_cons (pv 0) (pa_cons (pe_ix ix_seq (pv 1) pe_int (fun _ _ => rfl)) pa_nil))))) pss_nil)
      (pss_one (ps_ret (pe_cf F_rename_paper (hr.mono l_rename_paper) (kp_rename_paper T) (g_rename_paper T) (fun σ => L2N.passAt tkN σ) (pa_cons (pv 0) (pa_cons (pe_ix ix_seq (pv 1) pe_int (fun _ _ => rfl)) (pa_cons (pe_ix ix_seq (pv 1) pe_int (fun _ _ => rfl)) pa_nil)))))))))
def t__law_start (K : PySem.W.Frag) : TS :=
  (tSeq (tAsg (tC (.int 7)) (gName 1))
    (tSeq (tFor (iRng1 (tCons (tCB (rLenG K) (tCons (tVar 0) tNil)) tNil)) (gName 2) (tAsg (tOp rMod (tOp (rAddG K) (tOp (rAddG K) (tOp (rAddG K) (tOp rMulG (tVar 1) (tC (.int 48271))) (tOp rMod (tCB rIntG (tCons (tOp (rIx K) (tVar 0) (tVar 2)) tNil)) (tC (.int 2147483647)))) (tVar 2)) (tC (.int 1))) (tC (.int 2147483647))) (gName 1)))
    (tRet (tLst (tCons (tVar 1) (tCons (tCB (rListG K) (tCons (tVar 0) tNil)) (tCons (tC (.int 0)) (tCons (tC (.int 0)) tNil))))))))
theorem b__law_start {P : Program} {w : World} {K : PySem.W.Frag} {mg : Str → Option Value} {base : Heap} {k : Nat} {fa : Addr} {cdv : Value} {A : Around} {outer : List Env} {s0 : Shared} {H0 : Hp} {E : XK} (T : TT K mg) (hr : Room k (A.deeper (envOfC q__law_start (defScope s__law_start) s0.heap.objs.size fa cdv)))
     :
    PSs (cxOf CX0 P w K mg base N__law_start q__law_start (defScope s__law_start) fa cdv A outer s0 H0 E).nox (defBody s__law_start) (t__law_start K) := by
  exact ((pss_cons (ps_set (i := 1) sc__law_start.nd rfl (by first | exact Or.inl rfl | exact Or.inr rfl) pe_int)
      (pss_cons (ps_for PassesOwn.never rfl (pi_range1 rfl (m_range T) (pa_cons (pe_callB call_lenG (by rfl) (m_len T) boot_len (pa_cons (pv 0) pa_nil)) pa_nil)) (pg_name (i := 2) sc__law_start.nd rfl (by first | exact Or.inl rfl | exact Or.inr rfl)) (pss_one (ps_set (i := 1) sc__law_start.nd rfl (by first | exact Or.inl rfl | exact Or.inr rfl) (pe_op op_modN (pe_op op_addG (pe_op op_addG (pe_op op_addG (pe_op op_mulG (pv 1) pe_int) (pe_op op_modN (pe_callTy call_intG (by rfl) (m_int T) (by decide +kernel) (pa_cons (pe_ix ix_seq (pv 0) (pv 2) (fun _ _ => rfl)) pa_nil)) pe_int)) (pv 2)) pe_int) pe_int))))
      (pss_one (ps_ret (pe_lst (pa_cons (pv 1) (pa_cons (pe_callTy (call_listG rfl) (by rfl) (m_list T) (by decide +kernel) (pa_cons (pv 0) pa_nil)) (pa_cons pe_int (pa_cons pe_int pa_nil))))))))))
def t__law_pick (K : PySem.W.Frag) : TS :=
  (tSeq (tIfS (tTest (tOp rGe (tOp (rIx K) (tVar 0) (tC (.int 3))) (tVar 1))) (tSeq (tAsg (tCB rIntG (tCons (tOp (rIx K) (tVar 0) (tC (.int 3))) tNil)) (gName 2))
    (tSeq (tAsg (tOp rFdiv (tVar 2) (tVar 1)) (gSub (tVar 0) (tC (.int 3)) rSetL))
    (tRet (tOp rMod (tVar 2) (tVar 1))))) tNext)
    (tSeq (tAsg (tC (.int 11)) (gName 3))
    (tSeq (tIfS (tTest (tOp rLt (tOp (rIx K) (tVar 0) (tC (.int 2))) (tCB (rLenG K) (tCons (tOp (rIx K) (tVar 0) (tC (.int 1))) tNil)))) (tSeq (tAsg (tCB rIntG (tCons (tOp (rIx K) (tOp (rIx K) (tVar 0) (tC (.int 1))) (tOp (rIx K) (tVar 0) (tC (.int 2)))) tNil)) (gName 3))
    (tSeq (tAsg (tOp (rAddG K) (tOp (rIx K) (tVar 0) (tC (.int 2))) (tC (.int 1))) (gSub (tVar 0) (tC (.int 2)) rSetL))
    (tSeq (tIfS (tTest (tOp rLt (tVar 3) (tC (.int 0)))) (tAsg (tOp rSub (tC (.int 1)) (tVar 3)) (gName 3)) tNext)
    (tIfS (tTest (tOp rGe (tVar 3) (tOp rPow (tC (.int 10)) (tC (.int 18))))) (tSeq (tAsg (tOp rFdiv (tVar 3) (tVar 1)) (gSub (tVar 0) (tC (.int 3)) rSetL))
    (tRet (tOp rMod (tVar 3) (tVar 1)))) tNext)))) tNext)
    (tSeq (tAsg (tOp rMod (tOp rMulG (tOp (rAddG K) (tOp (rAddG K) (tCB rIntG (tCons (tOp (rIx K) (tVar 0) (tC (.int 0))) tNil)) (tOp rMod (tVar 3) (tC (.int 2147483647)))) (tC (.int 1))) (tC (.int 48271))) (tC (.int 2147483647))) (gName 4))
    (tSeq (tAsg (tOp rMod (tOp (rAddG K) (tOp rMulG (tVar 4) (tC (.int 69621))) (tC (.int 12345))) (tC (.int 2147483647))) (gSub (tVar 0) (tC (.int 0)) rSetL))
    (tRet (tOp rMod (tOp rFdiv (tCB rIntG (tCons (tOp (rIx K) (tVar 0) (tC (.int 0))) tNil)) (tC (.int 7))) (tVar 1))))))))
theorem b__law_pick {P : Program} {w : World} {K : PySem.W.Frag} {mg : Str → Option Value} {base : Heap} {k : Nat} {fa : Addr} {cdv : Value} {A : Around} {outer : List Env} {s0 : Shared} {H0 : Hp} {E : XK} (T : TT K mg) (hr : Room k (A.deeper (envOfC q__law_pick (defScope s__law_pick) s0.heap.objs.size fa cdv)))
     :
    PSs (cxOf CX0 P w K mg base N__law_pick q__law_pick (defScope s__law_pick) fa cdv A outer s0 H0 E).nox (defBody s__law_pick) (t__law_pick K) := by
  exact ((pss_cons (ps_if (pt_cmpR op_ge (pe_ix ix_seq (pv 0) pe_int (fun _ _ => rfl)) (pv 1) (nomark _)) (pss_cons (ps_set (i := 2) sc__law_pick.nd rfl (by first | exact Or.inl rfl | exact Or.inr rfl) (pe_callTy call_intG (by rfl) (m_int T) (by decide +kernel) (pa_cons (pe_ix ix_seq (pv 0) pe_int (fun _ _ => rfl)) pa_nil)))
      (pss_cons (ps_asg (pe_op op_fdivN (pv 2) (pv 1)) (pg_sub (pv 0) pe_int set_list))
      (pss_one (ps_ret (pe_op op_modN (pv 2) (pv 1)))))) pss_nil)
      (pss_cons (ps_set (i := 3) sc__law_pick.nd rfl (by first | exact Or.inl rfl | exact Or.inr rfl) pe_int)
      (pss_cons (ps_if (pt_cmpR op_lt (pe_ix ix_seq (pv 0) pe_int (fun _ _ => rfl)) (pe_callB call_lenG (by rfl) (m_len T) boot_len (pa_cons (pe_ix ix_seq (pv 0) pe_int (fun _ _ => rfl)) pa_nil)) (nomark _)) (pss_cons (ps_set (i := 3) sc__law_pick.nd rfl (by first | exact Or.inl rfl | exact Or.inr rfl) (pe_callTy call_intG (by rfl) (m_int T) (by decide +kernel) (pa_cons (pe_ix ix_seq (pe_ix ix_seq (pv 0) pe_int (fun _ _ => rfl)) (pe_ix ix_seq (pv 0) pe_int (fun _ _ => rfl)) (fun _ _ => rfl)) pa_nil)))
      (pss_cons (ps_asg (pe_op op_addG (pe_ix ix_seq (pv 0) pe_int (fun _ _ => rfl)) pe_int) (pg_sub (pv 0) pe_int set_list))
      (pss_cons (ps_if (pt_cmpR op_lt (pv 3) pe_int (nomark _)) (pss_one (ps_set (i := 3) sc__law_pick.nd rfl (by first | exact Or.inl rfl | exact Or.inr rfl) (pe_op op_sub pe_int (pv 3)))) pss_nil)
      (pss_one (ps_if (pt_cmpR op_ge (pv 3) (pe_op op_pow pe_int pe_int) (nomark _)) (pss_cons (ps_asg (pe_op op_fdivN (pv 3) (pv 1)) (pg_sub (pv 0) pe_int set_list))
      (pss_one (ps_ret (pe_op op_modN (pv 3) (pv 1))))) pss_nil))))) pss_nil)
      (pss_cons (ps_set (i := 4) sc__law_pick.nd rfl (by first | exact Or.inl rfl | exact Or.inr rfl) (pe_op op_modN (pe_op op_mulG (pe_op op_addG (pe_op op_addG (pe_callTy call_intG (by rfl) (m_int T) (by decide +kernel) (pa_cons (pe_ix ix_seq (pv 0) pe_int (fun _ _ => rfl)) pa_nil)) (pe_op op_modN (pv 3) pe_int)) pe_int) pe_int) pe_int))
      (pss_cons (ps_asg (pe_op op_modN (pe_op op_addG (pe_op op_mulG (pv 4) pe_int) pe_int) pe_int) (pg_sub (pv 0) pe_int set_list))
      (pss_one (ps_ret (pe_op op_modN (pe_op op_fdivN (pe_callTy call_intG (by rfl) (m_int T) (by decide +kernel) (pa_cons (pe_ix ix_seq (pv 0) pe_int (fun _ _ => rfl)) pa_nil)) pe_int) (pv 1))))))))))
def t__law_same (K : PySem.W.Frag) (sp__law_same : Sp) : TS :=
  (tSeq (tIfS (tB (tCB (rIsi K) (tCons (tVar 1) (tCons (tC (.ty "tuple")) tNil)))) (tSeq (tIfS (tOr (tNot (tB (tCB (rIsi K) (tCons (tVar 0) (tCons (tC (.ty "tuple")) tNil))))) (tTest (tOp (rNeG K) (tCB (rLenG K) (tCons (tVar 0) tNil)) (tCB (rLenG K) (tCons (tVar 1) tNil))))) (tRet (tC (.bl false))) tNext)
    (tRet (tCB (rAll K) (tCons (tLc (iRng1 (tCons (tCB (rLenG K) (tCons (tVar 1) tNil)) tNil)) (gName 2) tYes (tCallR sp__law_same (fun _ => E0) (tCons (tOp (rIx K) (tVar 0) (tVar 2)) (tCons (tOp (rIx K) (tVar 1) (tVar 2)) tNil))) [2]) tNil)))) tNext)
    (tSeq (tIfS (tTest (tOp rIsNo (tVar 1) (tC .non))) (tRet (tOp rIsNo (tVar 0) (tC .non))) tNext)
    (tSeq (tIfS (tB (tCB (rIsi K) (tCons (tVar 1) (tCons (tC (.ty "str")) tNil)))) (tRet (tAndV (tCB (rIsi K) (tCons (tVar 0) (tCons (tC (.ty "str")) tNil))) (tOp (rEqG K) (tVar 0) (tVar 1)))) tNext)
    (tSeq (tIfS (tB (tCB (rIsi K) (tCons (tVar 1) (tCons (tC (.ty "bool")) tNil)))) (tRet (tAndV (tCB (rIsi K) (tCons (tVar 0) (tCons (tC (.ty "bool")) tNil))) (tOp (rEqG K) (tVar 0) (tVar 1)))) tNext)
    (tRet (tAndV (tCB (rIsi K) (tCons (tVar 0) (tCons (tC (.ty "int")) tNil))) (tAndV (tNotV (tCB (rIsi K) (tCons (tVar 0) (tCons (tC (.ty "bool")) tNil)))) (tOp (rEqG K) (tVar 0) (tVar 1)))))))))
theorem b__law_same {P : Program} {w : World} {K : PySem.W.Frag} {mg : Str → Option Value} {base : Heap} {k k__law_same : Nat} {sp__law_same : Sp} {fa : Addr} {cdv : Value} {A : Around} {outer : List Env} {s0 : Shared} {H0 : Hp} {E : XK} (T : TT K mg) (hr : Room k (A.deeper (envOfC q__law_same (defScope s__law_same) s0.heap.objs.size fa cdv)))
    (F__law_same : FnR P w K mg base CX0 k__law_same (He.ga K "_law_same") sp__law_same) (l__law_same : k__law_same ≤ k) :
    PSs (cxOf CX0 P w K mg base N__law_same q__law_same (defScope s__law_same) fa cdv A outer s0 H0 E).nox (defBody s__law_same) (t__law_same K sp__law_same) := by
  exact ((pss_cons (ps_if (pt_val (pe_callB call_isi (by rfl) (m_isinstance T) (by decide +kernel) (pa_cons (pv 1) (pa_cons (pe_bltn (v := .ty "tuple") rfl (m_tuple T) (by decide +kernel) rfl) pa_nil)))) (pss_cons (ps_if (PW.pt (pw_or (pt_not (pt_val (pe_callB call_isi (by rfl) (m_isinstance T) (by decide +kernel) (pa_cons (pv 0) (pa_cons (pe_bltn (v := .ty "tuple") rfl (m_tuple T) (by decide +kernel) rfl) pa_nil))))) (pw_or1 (pt_cmpR (op_neG hr.units) (pe_callB call_lenG (by rfl) (m_len T) boot_len (pa_cons (pv 0) pa_nil)) (pe_callB call_lenG (by rfl) (m_len T) boot_len (pa_cons (pv 1) pa_nil)) (nomark _))))) (pss_one (ps_ret pe_bl)) pss_nil)
      (pss_one (ps_ret (pe_callB (cr_all rfl) (by rfl) (m_all T) (by decide +kernel) (pa_cons (pe_lc (own := [("p", 2)]) (g := gName 2) (tt := tYes) rfl sc__law_same.nd (pi_range1 rfl (m_range T) (pa_cons (pe_callB call_lenG (by rfl) (m_len T) boot_len (pa_cons (pv 1) pa_nil)) pa_nil)) (blkOk_by (own := [("p", 2)]) (N := N__law_same) (sc := defScope s__law_same) (by decide +kernel)) (fun _ _ _ _ _ => pg_name (i := 2) sc__law_same.nd rfl (Or.inl rfl)) (fun _ _ _ _ _ => pts_nil) (fun _ _ _ _ _ => (pe_cf F__law_same (hr.mono l__law_same) (kp__law_same T) (g__law_same T) at0 (pa_cons (pe_ix ix_seq (pv 0) (pv 2) (fun _ _ => rfl)) (pa_cons (pe_ix ix_seq (pv 1) (pv 2) (fun _ _ => rfl)) pa_nil))))) pa_nil))))) pss_nil)
      (pss_cons (ps_if (pt_cmpR op_isN (pv 1) pe_non (nomark _)) (pss_one (ps_ret (pe_cmpR op_isN (pv 0) pe_non (nomark _)))) pss_nil)
      (pss_cons (ps_if (pt_val (pe_callB call_isi (by rfl) (m_isinstance T) (by decide +kernel) (pa_cons (pv 1) (pa_cons (pe_bltn (v := .ty "str") rfl (m_str T) (by decide +kernel) rfl) pa_nil)))) (pss_one (ps_ret (pe_and (pe_callB call_isi (by rfl) (m_isinstance T) (by decide +kernel) (pa_cons (pv 0) (pa_cons (pe_bltn (v := .ty "str") rfl (m_str T) (by decide +kernel) rfl) pa_nil))) (pe_one (pe_cmpR (op_eqG hr.units) (pv 0) (pv 1) (nomark _)))))) pss_nil)
      (pss_cons (ps_if (pt_val (pe_callB call_isi (by rfl) (m_isinstance T) (by decide +kernel) (pa_cons (pv 1) (pa_cons (pe_bltn (v := .ty "bool") rfl (m_bool T) (by decide +kernel) rfl) pa_nil)))) (pss_one (ps_ret (pe_and (pe_callB call_isi (by rfl) (m_isinstance T) (by decide +kernel) (pa_cons (pv 0) (pa_cons (pe_bltn (v := .ty "bool") rfl (m_bool T) (by decide +kernel) rfl) pa_nil))) (pe_one (pe_cmpR (op_eqG hr.units) (pv 0) (pv 1) (nomark _)))))) pss_nil)
      (pss_one (ps_ret (pe_and (pe_callB call_isi (by rfl) (m_isinstance T) (by decide +kernel) (pa_cons (pv 0) (pa_cons (pe_bltn (v := .ty "int") rfl (m_int T) (by decide +kernel) rfl) pa_nil))) (pe_and (pe_not (pe_callB call_isi (by rfl) (m_isinstance T) (by decide +kernel) (pa_cons (pv 0) (pa_cons (pe_bltn (v := .ty "bool") rfl (m_bool T) (by decide +kernel) rfl) pa_nil)))) (pe_one (pe_cmpR (op_eqG hr.units) (pv 0) (pv 1) (nomark _))))))))))))
def t__law_names (K : PySem.W.Frag) (sp__law_pick : Sp) : TS :=
  (tSeq (tAsg (tC (.str (PySem.Str.ofString "abcdefghijklmnopqrstuvwxyz"))) (gName 2))
    (tSeq (tAsg (tLst tNil) (gName 3))
    (tSeq (tFor (iRng1 (tCons (tVar 1) tNil)) (gName 4) (tSeq (tAsg (tOp (rIx K) (tLst (tCons (tC (.int 1)) (tCons (tC (.int 1)) (tCons (tC (.int 2)) (tCons (tC (.int 12)) tNil))))) (tCallR sp__law_pick (fun _ => E0) (tCons (tVar 0) (tCons (tC (.int 4)) tNil)))) (gName 5))
    (tSeq (tAsg (tJoin K (tC (.str (PySem.Str.ofString ""))) (tLc (iRng1 (tCons (tVar 5) tNil)) (gName 7) tYes (tOp (rIx K) (tVar 2) (tCallR sp__law_pick (fun _ => E0) (tCons (tVar 0) (tCons (tC (.int 26)) tNil)))) [7])) (gName 6))
    (tIfS (tTest (tOp (rNotInG K) (tVar 6) (tVar 3))) (tDrop (tBM K "list" rAppend (tVar 3) (tCons (tVar 6) tNil))) tNext))))
    (tRet (tVar 3)))))
theorem b__law_names {P : Program} {w : World} {K : PySem.W.Frag} {mg : Str → Option Value} {base : Heap} {k k__law_pick : Nat} {sp__law_pick : Sp} {fa : Addr} {cdv : Value} {A : Around} {outer : List Env} {s0 : Shared} {H0 : Hp} {E : XK} (T : TT K mg) (hr : Room k (A.deeper (envOfC q__law_names (defScope s__law_names) s0.heap.objs.size fa cdv)))
    (F__law_pick : FnR P w K mg base CX0 k__law_pick (He.ga K "_law_pick") sp__law_pick) (l__law_pick : k__law_pick ≤ k) :
    PSs (cxOf CX0 P w K mg base N__law_names q__law_names (defScope s__law_names) fa cdv A outer s0 H0 E).nox (defBody s__law_names) (t__law_names K sp__law_pick) := by
  exact ((pss_cons (ps_set (i := 2) sc__law_names.nd rfl (by first | exact Or.inl rfl | exact Or.inr rfl) pe_str)
      (pss_cons (ps_set (i := 3) sc__law_names.nd rfl (by first | exact Or.inl rfl | exact Or.inr rfl) (pe_lst pa_nil))
      (pss_cons (ps_for PassesOwn.never rfl (pi_range1 rfl (m_range T) (pa_cons (pv 1) pa_nil)) (pg_name (i := 4) sc__law_names.nd rfl (by first | exact Or.inl rfl | exact Or.inr rfl)) (pss_cons (ps_set (i := 5) sc__law_names.nd rfl (by first | exact Or.inl rfl | exact Or.inr rfl) (pe_ix ix_seq (pe_lst (pa_cons pe_int (pa_cons pe_int (pa_cons pe_int (pa_cons pe_int pa_nil))))) (pe_cf F__law_pick (hr.mono l__law_pick) (kp__law_pick T) (g__law_pick T) at0 (pa_cons (pv 0) (pa_cons pe_int pa_nil))) (fun _ _ => rfl)))
      (pss_cons (ps_set (i := 6) sc__law_names.nd rfl (by first | exact Or.inl rfl | exact Or.inr rfl) (pe_join pe_str (pe_lc (own := [("y", 7)]) (g := gName 7) (tt := tYes) rfl sc__law_names.nd (pi_range1 rfl (m_range T) (pa_cons (pv 5) pa_nil)) (blkOk_by (own := [("y", 7)]) (N := N__law_names) (sc := defScope s__law_names) (by decide +kernel)) (fun _ _ _ _ _ => pg_name (i := 7) sc__law_names.nd rfl (Or.inl rfl)) (fun _ _ _ _ _ => pts_nil) (fun _ _ _ _ _ => (pe_ix ix_seq (pv 2) (pe_cf F__law_pick (hr.mono l__law_pick) (kp__law_pick T) (g__law_pick T) at0 (pa_cons (pv 0) (pa_cons pe_int pa_nil))) (fun _ _ => rfl))))))
      (pss_one (ps_if (pt_cmpR op_notInG (pv 6) (pv 3) (by rfl)) (pss_one (ps_expr (pe_bm PySem.F.plainAttrs_list PySem.F.slot_list_append PySem.F.type_list_append mt_append (pv 3) (pa_cons (pv 6) pa_nil)))) pss_nil)))))
      (pss_one (ps_ret (pv 3)))))))
def t__law_pool (K : PySem.W.Frag) (sp__law_pick : Sp) (sp__law_names : Sp) : TS :=
  (tSeq (tIfS (tTest (tOp (rEqG K) (tCallR sp__law_pick (fun _ => E0) (tCons (tVar 0) (tCons (tC (.int 2)) tNil))) (tC (.int 0)))) (tRet (tCallR sp__law_names (fun _ => E0) (tCons (tVar 0) (tCons (tOp (rAddG K) (tC (.int 2)) (tCallR sp__law_pick (fun _ => E0) (tCons (tVar 0) (tCons (tC (.int 6)) tNil)))) tNil)))) tNext)
    (tSeq (tAsg (tC (.str (PySem.Str.ofString "abcdefghijklmnopqrstuvwxyz"))) (gName 1))
    (tSeq (tAsg (tJoin K (tC (.str (PySem.Str.ofString ""))) (tLc (iRng1 (tCons (tCallR sp__law_pick (fun _ => E0) (tCons (tVar 0) (tCons (tC (.int 12)) tNil))) tNil)) (gName 3) tYes (tOp (rIx K) (tVar 1) (tCallR sp__law_pick (fun _ => E0) (tCons (tVar 0) (tCons (tC (.int 26)) tNil)))) [3])) (gName 2))
    (tRet (tLc (iStr (L2.tSl (rSlG K) (tC (.str (PySem.Str.ofString "qbzaem"))) tNoPart (tPart (tOp (rAddG K) (tC (.int 2)) (tCallR sp__law_pick (fun _ => E0) (tCons (tVar 0) (tCons (tC (.int 5)) tNil))))))) (gName 4) tYes (tOp (rAddG K) (tVar 2) (tVar 4)) [4])))))
theorem b__law_pool {P : Program} {w : World} {K : PySem.W.Frag} {mg : Str → Option Value} {base : Heap} {k k__law_pick k__law_names : Nat} {sp__law_pick sp__law_names : Sp} {fa : Addr} {cdv : Value} {A : Around} {outer : List Env} {s0 : Shared} {H0 : Hp} {E : XK} (T : TT K mg) (hr : Room k (A.deeper (envOfC q__law_pool (defScope s__law_pool) s0.heap.objs.size fa cdv)))
    (F__law_pick : FnR P w K mg base CX0 k__law_pick (He.ga K "_law_pick") sp__law_pick) (l__law_pick : k__law_pick ≤ k)
    (F__law_names : FnR P w K mg base CX0 k__law_names (He.ga K "_law_names") sp__law_names) (l__law_names : k__law_names ≤ k) :
    PSs (cxOf CX0 P w K mg base N__law_pool q__law_pool (defScope s__law_pool) fa cdv A outer s0 H0 E).nox (defBody s__law_pool) (t__law_pool K sp__law_pick sp__law_names) := by
  exact ((pss_cons (ps_if (pt_cmpR (op_eqG hr.units) (pe_cf F__law_pick (hr.mono l__law_pick) (kp__law_pick T) (g__law_pick T) at0 (pa_cons (pv 0) (pa_cons pe_int pa_nil))) pe_int (nomark _)) (pss_one (ps_ret (pe_cf F__law_names (hr.mono l__law_names) (kp__law_names T) (g__law_names T) at0 (pa_cons (pv 0) (pa_cons (pe_op op_addG pe_int (pe_cf F__law_pick (hr.mono l__law_pick) (kp__law_pick T) (g__law_pick T) at0 (pa_cons (pv 0) (pa_cons pe_int pa_nil)))) pa_nil))))) pss_nil)
      (pss_cons (ps_set (i := 1) sc__law_pool.nd rfl (by first | exact Or.inl rfl | exact Or.inr rfl) pe_str)
      (pss_cons (ps_set (i := 2) sc__law_pool.nd rfl (by first | exact Or.inl rfl | exact Or.inr rfl) (pe_join pe_str (pe_lc (own := [("x", 3)]) (g := gName 3) (tt := tYes) rfl sc__law_pool.nd (pi_range1 rfl (m_range T) (pa_cons (pe_cf F__law_pick (hr.mono l__law_pick) (kp__law_pick T) (g__law_pick T) at0 (pa_cons (pv 0) (pa_cons pe_int pa_nil))) pa_nil)) (blkOk_by (own := [("x", 3)]) (N := N__law_pool) (sc := defScope s__law_pool) (by decide +kernel)) (fun _ _ _ _ _ => pg_name (i := 3) sc__law_pool.nd rfl (Or.inl rfl)) (fun _ _ _ _ _ => pts_nil) (fun _ _ _ _ _ => (pe_ix ix_seq (pv 1) (pe_cf F__law_pick (hr.mono l__law_pick) (kp__law_pick T) (g__law_pick T) at0 (pa_cons (pv 0) (pa_cons pe_int pa_nil))) (fun _ _ => rfl))))))
      (pss_one (ps_ret (pe_lc (own := [("sign", 4)]) (g := gName 4) (tt := tYes) rfl sc__law_pool.nd (pi_str (pe_slice sl_G pe_str po_none (po_some (pe_op op_addG pe_int (pe_cf F__law_pick (hr.mono l__law_pick) (kp__law_pick T) (g__law_pick T) at0 (pa_cons (pv 0) (pa_cons pe_int pa_nil))))))) (blkOk_by (own := [("sign", 4)]) (N := N__law_pool) (sc := defScope s__law_pool) (by decide +kernel)) (fun _ _ _ _ _ => pg_name (i := 4) sc__law_pool.nd rfl (Or.inl rfl)) (fun _ _ _ _ _ => pts_nil) (fun _ _ _ _ _ => (pe_op op_addG (pv 2) (pv 4))))))))))
def t__law_small_term (K : PySem.W.Frag) (sp__law_pick : Sp) : TS :=
  (tSeq (tAsg (tCallR sp__law_pick (fun _ => E0) (tCons (tVar 0) (tCons (tC (.int 6)) tNil))) (gName 2))
    (tSeq (tAsg (tOp (rIx K) (tVar 1) (tCallR sp__law_pick (fun _ => E0) (tCons (tVar 0) (tCons (tCB (rLenG K) (tCons (tVar 1) tNil)) tNil)))) (gName 3))
    (tSeq (tIfS (tTest (tOp (rEqG K) (tVar 2) (tC (.int 0)))) (tRet (tCallR sp__law_pick (fun _ => E0) (tCons (tVar 0) (tCons (tC (.int 1000000000)) tNil)))) tNext)
    (tSeq (tIfS (tTest (tOp (rEqG K) (tVar 2) (tC (.int 1)))) (tRet (tVar 3)) tNext)
    (tSeq (tIfS (tTest (tOp (rEqG K) (tVar 2) (tC (.int 2)))) (tRet (tTup tNil)) tNext)
    (tSeq (tAsg (tTup (tCons (tOp (rIx K) (tLst (tCons (tC (.str (PySem.Str.ofString "aim"))) (tCons (tC (.str (PySem.Str.ofString "tree"))) tNil))) (tCallR sp__law_pick (fun _ => E0) (tCons (tVar 0) (tCons (tC (.int 2)) tNil)))) (tCons (tVar 3) tNil))) (gName 4))
    (tSeq (tIfS (tTest (tOp (rEqG K) (tVar 2) (tC (.int 3)))) (tRet (tTup (tCons (tC (.str (PySem.Str.ofString "not"))) (tCons (tVar 4) (tCons (tCallR sp__law_pick (fun _ => E0) (tCons (tVar 0) (tCons (tC (.int 3)) tNil))) tNil))))) tNext)
    (tRet (tVar 4)))))))))
theorem b__law_small_term {P : Program} {w : World} {K : PySem.W.Frag} {mg : Str → Option Value} {base : Heap} {k k__law_pick : Nat} {sp__law_pick : Sp} {fa : Addr} {cdv : Value} {A : Around} {outer : List Env} {s0 : Shared} {H0 : Hp} {E : XK} (T : TT K mg) (hr : Room k (A.deeper (envOfC q__law_small_term (defScope s__law_small_term) s0.heap.objs.size fa cdv)))
    (F__law_pick : FnR P w K mg base CX0 k__law_pick (He.ga K "_law_pick") sp__law_pick) (l__law_pick : k__law_pick ≤ k) :
    PSs (cxOf CX0 P w K mg base N__law_small_term q__law_small_term (defScope s__law_small_term) fa cdv A outer s0 H0 E).nox (defBody s__law_small_term) (t__law_small_term K sp__law_pick) := by
  exact ((pss_cons (ps_set (i := 2) sc__law_small_term.nd rfl (by first | exact Or.inl rfl | exact Or.inr rfl) (pe_cf F__law_pick (hr.mono l__law_pick) (kp__law_pick T) (g__law_pick T) at0 (pa_cons (pv 0) (pa_cons pe_int pa_nil))))
      (pss_cons (ps_set (i := 3) sc__law_small_term.nd rfl (by first | exact Or.inl rfl | exact Or.inr rfl) (pe_ix ix_seq (pv 1) (pe_cf F__law_pick (hr.mono l__law_pick) (kp__law_pick T) (g__law_pick T) at0 (pa_cons (pv 0) (pa_cons (pe_callB call_lenG (by rfl) (m_len T) boot_len (pa_cons (pv 1) pa_nil)) pa_nil))) (fun _ _ => rfl)))
      (pss_cons (ps_if (pt_cmpR (op_eqG hr.units) (pv 2) pe_int (nomark _)) (pss_one (ps_ret (pe_cf F__law_pick (hr.mono l__law_pick) (kp__law_pick T) (g__law_pick T) at0 (pa_cons (pv 0) (pa_cons pe_int pa_nil))))) pss_nil)
      (pss_cons (ps_if (pt_cmpR (op_eqG hr.units) (pv 2) pe_int (nomark _)) (pss_one (ps_ret (pv 3))) pss_nil)
      (pss_cons (ps_if (pt_cmpR (op_eqG hr.units) (pv 2) pe_int (nomark _)) (pss_one (ps_ret (pe_tup pa_nil))) pss_nil)
      (pss_cons (ps_set (i := 4) sc__law_small_term.nd rfl (by first | exact Or.inl rfl | exact Or.inr rfl) (pe_tup (pa_cons (pe_ix ix_seq (pe_lst (pa_cons pe_str (pa_cons pe_str pa_nil))) (pe_cf F__law_pick (hr.mono l__law_pick) (kp__law_pick T) (g__law_pick T) at0 (pa_cons (pv 0) (pa_cons pe_int pa_nil))) (fun _ _ => rfl)) (pa_cons (pv 3) pa_nil))))
      (pss_cons (ps_if (pt_cmpR (op_eqG hr.units) (pv 2) pe_int (nomark _)) (pss_one (ps_ret (pe_tup (pa_cons pe_str (pa_cons (pv 4) (pa_cons (pe_cf F__law_pick (hr.mono l__law_pick) (kp__law_pick T) (g__law_pick T) at0 (pa_cons (pv 0) (pa_cons pe_int pa_nil))) pa_nil)))))) pss_nil)
      (pss_one (ps_ret (pv 4)))))))))))
def t__law_edit (K : PySem.W.Frag) (sp__law_pick : Sp) (sp__law_small_term : Sp) : TS :=
  (tSeq (tAsg (tCallR sp__law_pick (fun _ => E0) (tCons (tVar 0) (tCons (tC (.int 8)) tNil))) (gName 3))
    (tSeq (tAsg (tOp (rIx K) (tVar 1) (tCallR sp__law_pick (fun _ => E0) (tCons (tVar 0) (tCons (tCB (rLenG K) (tCons (tVar 1) tNil)) tNil)))) (gName 4))
    (tSeq (tIfS (tAnd (tTest (tOp rGt (tVar 3) (tC (.int 3)))) (tAnd (tTest (tOp rGt (tCB (rLenG K) (tCons (tVar 2) tNil)) (tC (.int 0)))) (tTest (tOp rGt (tCallR sp__law_pick (fun _ => E0) (tCons (tVar 0) (tCons (tC (.int 4)) tNil))) (tC (.int 0)))))) (tAsg (tOp (rIx K) (tVar 2) (tCallR sp__law_pick (fun _ => E0) (tCons (tVar 0) (tCons (tCB (rLenG K) (tCons (tVar 2) tNil)) tNil)))) (gName 4)) tNext)
    (tSeq (tIfS (tTest (tOp (rEqG K) (tCallR sp__law_pick (fun _ => E0) (tCons (tVar 0) (tCons (tC (.int 16)) tNil))) (tC (.int 0)))) (tAsg (tOp (rIx K) (tLst (tCons (tC (.str (PySem.Str.ofString ""))) (tCons (tC (.str (PySem.Str.ofString "a1"))) tNil))) (tCallR sp__law_pick (fun _ => E0) (tCons (tVar 0) (tCons (tC (.int 2)) tNil)))) (gName 4)) tNext)
    (tSeq (tIfS (tTest (tOp rLt (tVar 3) (tC (.int 4)))) (tSeq (tAsg (tOp (rIx K) (tLst (tCons (tC (.str (PySem.Str.ofString "aim"))) (tCons (tC (.str (PySem.Str.ofString "tree"))) tNil))) (tCallR sp__law_pick (fun _ => E0) (tCons (tVar 0) (tCons (tC (.int 2)) tNil)))) (gName 5))
    (tSeq (tAsg (tCallR sp__law_small_term (fun _ => E0) (tCons (tVar 0) (tCons (tVar 1) tNil))) (gName 6))
    (tSeq (tAsg (tCallR sp__law_pick (fun _ => E0) (tCons (tVar 0) (tCons (tC (.int 12)) tNil))) (gName 7))
    (tSeq (tIfS (tTest (tOp (rEqG K) (tVar 7) (tC (.int 0)))) (tAsg (tC (.str (PySem.Str.ofString "node"))) (gName 5)) tNext)
    (tSeq (tIfS (tTest (tOp (rEqG K) (tVar 7) (tC (.int 1)))) (tAsg (tTup (tCons (tC (.str (PySem.Str.ofString "first"))) (tCons (tUn (rU fun i => .int (-i)) (tC (.int 1))) tNil))) (gName 6)) tNext)
    (tRet (tTup (tCons (tC (.str (PySem.Str.ofString "put"))) (tCons (tVar 4) (tCons (tVar 5) (tCons (tVar 6) tNil))))))))))) tNext)
    (tSeq (tIfS (tTest (tOp rLt (tVar 3) (tC (.int 6)))) (tRet (tTup (tCons (tC (.str (PySem.Str.ofString "drop"))) (tCons (tVar 4) tNil)))) tNext)
    (tSeq (tAsg (tOp (rIx K) (tLst (tCons (tC (.str (PySem.Str.ofString "q"))) (tCons (tC (.str (PySem.Str.ofString "xy"))) (tCons (tC (.str (PySem.Str.ofString "w"))) tNil)))) (tCallR sp__law_pick (fun _ => E0) (tCons (tVar 0) (tCons (tC (.int 3)) tNil)))) (gName 8))
    (tSeq (tIfS (tTest (tOp (rEqG K) (tCallR sp__law_pick (fun _ => E0) (tCons (tVar 0) (tCons (tC (.int 3)) tNil))) (tC (.int 0)))) (tAsg (tOp (rIx K) (tOp (rAddG K) (tVar 1) (tLst (tCons (tC (.str (PySem.Str.ofString ""))) tNil))) (tCallR sp__law_pick (fun _ => E0) (tCons (tVar 0) (tCons (tOp (rAddG K) (tCB (rLenG K) (tCons (tVar 1) tNil)) (tC (.int 1))) tNil)))) (gName 8)) tNext)
    (tRet (tTup (tCons (tC (.str (PySem.Str.ofString "rename"))) (tCons (tVar 4) (tCons (tVar 8) tNil)))))))))))))
theorem b__law_edit {P : Program} {w : World} {K : PySem.W.Frag} {mg : Str → Option Value} {base : Heap} {k k__law_pick k__law_small_term : Nat} {sp__law_pick sp__law_small_term : Sp} {fa : Addr} {cdv : Value} {A : Around} {outer : List Env} {s0 : Shared} {H0 : Hp} {E : XK} (T : TT K mg) (hr : Room k (A.deeper (envOfC q__law_edit (defScope s__law_edit) s0.heap.objs.size fa cdv)))
    (F__law_pick : FnR P w K mg base CX0 k__law_pick (He.ga K "_law_pick") sp__law_pick) (l__law_pick : k__law_pick ≤ k)
    (F__law_small_term : FnR P w K mg base CX0 k__law_small_term (He.ga K "_law_small_term") sp__law_small_term) (l__law_small_term : k__law_small_term ≤ k) :
    PSs (cxOf CX0 P w K mg base N__law_edit q__law_edit (defScope s__law_edit) fa cdv A outer s0 H0 E).nox (defBody s__law_edit) (t__law_edit K sp__law_pick sp__law_small_term) := by
  exact ((pss_cons (ps_set (i := 3) sc__law_edit.nd rfl (by first | exact Or.inl rfl | exact Or.inr rfl) (pe_cf F__law_pick (hr.mono l__law_pick) (kp__law_pick T) (g__law_pick T) at0 (pa_cons (pv 0) (pa_cons pe_int pa_nil))))
      (pss_cons (ps_set (i := 4) sc__law_edit.nd rfl (by first | exact Or.inl rfl | exact Or.inr rfl) (pe_ix ix_seq (pv 1) (pe_cf F__law_pick (hr.mono l__law_pick) (kp__law_pick T) (g__law_pick T) at0 (pa_cons (pv 0) (pa_cons (pe_callB call_lenG (by rfl) (m_len T) boot_len (pa_cons (pv 1) pa_nil)) pa_nil))) (fun _ _ => rfl)))
      (pss_cons (ps_if (PW.pt (pw_and (pt_cmpR op_gt (pv 3) pe_int (nomark _)) (pw_and (pt_cmpR op_gt (pe_callB call_lenG (by rfl) (m_len T) boot_len (pa_cons (pv 2) pa_nil)) pe_int (nomark _)) (pw_and1 (pt_cmpR op_gt (pe_cf F__law_pick (hr.mono l__law_pick) (kp__law_pick T) (g__law_pick T) at0 (pa_cons (pv 0) (pa_cons pe_int pa_nil))) pe_int (nomark _)))))) (pss_one (ps_set (i := 4) sc__law_edit.nd rfl (by first | exact Or.inl rfl | exact Or.inr rfl) (pe_ix ix_seq (pv 2) (pe_cf F__law_pick (hr.mono l__law_pick) (kp__law_pick T) (g__law_pick T) at0 (pa_cons (pv 0) (pa_cons (pe_callB call_lenG (by rfl) (m_len T) boot_len (pa_cons (pv 2) pa_nil)) pa_nil))) (fun _ _ => rfl)))) pss_nil)
      (pss_cons (ps_if (pt_cmpR (op_eqG hr.units) (pe_cf F__law_pick (hr.mono l__law_pick) (kp__law_pick T) (g__law_pick T) at0 (pa_cons (pv 0) (pa_cons pe_int pa_nil))) pe_int (nomark _)) (pss_one (ps_set (i := 4) sc__law_edit.nd rfl (by first | exact Or.inl rfl | exact Or.inr rfl) (pe_ix ix_seq (pe_lst (pa_cons pe_str (pa_cons pe_str pa_nil))) (pe_cf F__law_pick (hr.mono l__law_pick) (kp__law_pick T) (g__law_pick T) at0 (pa_cons (pv 0) (pa_cons pe_int pa_nil))) (fun _ _ => rfl)))) pss_nil)
      (pss_cons (ps_if (pt_cmpR op_lt (pv 3) pe_int (nomark _)) (pss_cons (ps_set (i := 5) sc__law_edit.nd rfl (by first | exact Or.inl rfl | exact Or.inr rfl) (pe_ix ix_seq (pe_lst (pa_cons pe_str (pa_cons pe_str pa_nil))) (pe_cf F__law_pick (hr.mono l__law_pick) (kp__law_pick T) (g__law_pick T) at0 (pa_cons (pv 0) (pa_cons pe_int pa_nil))) (fun _ _ => rfl)))
      (pss_cons (ps_set (i := 6) sc__law_edit.nd rfl (by first | exact Or.inl rfl | exact Or.inr rfl) (pe_cf F__law_small_term (hr.mono l__law_small_term) (kp__law_small_term T) (g__law_small_term T) at0 (pa_cons (pv 0) (pa_cons (pv 1) pa_nil))))
      (pss_cons (ps_set (i := 7) sc__law_edit.nd rfl (by first | exact Or.inl rfl | exact Or.inr rfl) (pe_cf F__law_pick (hr.mono l__law_pick) (kp__law_pick T) (g__law_pick T) at0 (pa_cons (pv 0) (pa_cons pe_int pa_nil))))
      (pss_cons (ps_if (pt_cmpR (op_eqG hr.units) (pv 7) pe_int (nomark _)) (pss_one (ps_set (i := 5) sc__law_edit.nd rfl (by first | exact Or.inl rfl | exact Or.inr rfl) pe_str)) pss_nil)
      (pss_cons (ps_if (pt_cmpR (op_eqG hr.units) (pv 7) pe_int (nomark _)) (pss_one (ps_set (i := 6) sc__law_edit.nd rfl (by first | exact Or.inl rfl | exact Or.inr rfl) (pe_tup (pa_cons pe_str (pa_cons (pe_un un_neg pe_int) pa_nil))))) pss_nil)
      (pss_one (ps_ret (pe_tup (pa_cons pe_str (pa_cons (pv 4) (pa_cons (pv 5) (pa_cons (pv 6) pa_nil)))))))))))) pss_nil)
      (pss_cons (ps_if (pt_cmpR op_lt (pv 3) pe_int (nomark _)) (pss_one (ps_ret (pe_tup (pa_cons pe_str (pa_cons (pv 4) pa_nil))))) pss_nil)
      (pss_cons (ps_set (i := 8) sc__law_edit.nd rfl (by first | exact Or.inl rfl | exact Or.inr rfl) (pe_ix ix_seq (pe_lst (pa_cons pe_str (pa_cons pe_str (pa_cons pe_str pa_nil)))) (pe_cf F__law_pick (hr.mono l__law_pick) (kp__law_pick T) (g__law_pick T) at0 (pa_cons (pv 0) (pa_cons pe_int pa_nil))) (fun _ _ => rfl)))
      (pss_cons (ps_if (pt_cmpR (op_eqG hr.units) (pe_cf F__law_pick (hr.mono l__law_pick) (kp__law_pick T) (g__law_pick T) at0 (pa_cons (pv 0) (pa_cons pe_int pa_nil))) pe_int (nomark _)) (pss_one (ps_set (i := 8) sc__law_edit.nd rfl (by first | exact Or.inl rfl | exact Or.inr rfl) (pe_ix ix_seq (pe_op op_addG (pv 1) (pe_lst (pa_cons pe_str pa_nil))) (pe_cf F__law_pick (hr.mono l__law_pick) (kp__law_pick T) (g__law_pick T) at0 (pa_cons (pv 0) (pa_cons (pe_op op_addG (pe_callB call_lenG (by rfl) (m_len T) boot_len (pa_cons (pv 1) pa_nil)) pe_int) pa_nil))) (fun _ _ => rfl)))) pss_nil)
      (pss_one (ps_ret (pe_tup (pa_cons pe_str (pa_cons (pv 4) (pa_cons (pv 8) pa_nil)))))))))))))))
def t__law_opening (K : PySem.W.Frag) (sp__law_pick : Sp) (sp__law_small_term : Sp) : TS :=
  (tSeq (tAsg (tLst tNil) (gName 2))
    (tSeq (tIfS (tTest (tOp (rEqG K) (tCallR sp__law_pick (fun _ => E0) (tCons (tVar 0) (tCons (tC (.int 6)) tNil))) (tC (.int 0)))) (tSeq (tAsg (tOp (rIx K) (tLst (tCons (tC (.int 1)) (tCons (tC (.int 5)) (tCons (tC (.int 18)) (tCons (tC (.int 19)) (tCons (tC (.int 20)) (tCons (tC (.int 21)) (tCons (tC (.int 23)) (tCons (tC (.int 100)) (tCons (tC (.int 0)) tNil)))))))))) (tCallR sp__law_pick (fun _ => E0) (tCons (tVar 0) (tCons (tC (.int 9)) tNil)))) (gName 3))
    (tSeq (tIfS (tTest (tOp rGt (tVar 3) (tC (.int 0)))) (tDrop (tBM K "list" rAppend (tVar 2) (tCons (tTup (tCons (tC (.str (PySem.Str.ofString "keep"))) (tCons (tVar 3) tNil))) tNil))) tNext)
    (tFor (iRng1 (tCons (tOp (rAddG K) (tC (.int 17)) (tCallR sp__law_pick (fun _ => E0) (tCons (tVar 0) (tCons (tC (.int 8)) tNil)))) tNil)) (gName 4) (tDrop (tBM K "list" rAppend (tVar 2) (tCons (tTup (tCons (tC (.str (PySem.Str.ofString "put"))) (tCons (tOp (rIx K) (tVar 1) (tOp rMod (tCB rIntG (tCons (tVar 4) tNil)) (tCB (rLenG K) (tCons (tVar 1) tNil)))) (tCons (tC (.str (PySem.Str.ofString "aim"))) (tCons (tVar 4) tNil))))) tNil)))))) tNext)
    (tSeq (tFor (iList K (L2.tSl (rSlG K) (tVar 1) tNoPart (tPart (tCallR sp__law_pick (fun _ => E0) (tCons (tVar 0) (tCons (tOp (rAddG K) (tCB (rLenG K) (tCons (tVar 1) tNil)) (tC (.int 1))) tNil)))))) (gName 5) (tDrop (tBM K "list" rAppend (tVar 2) (tCons (tTup (tCons (tC (.str (PySem.Str.ofString "put"))) (tCons (tVar 5) (tCons (tOp (rIx K) (tLst (tCons (tC (.str (PySem.Str.ofString "aim"))) (tCons (tC (.str (PySem.Str.ofString "tree"))) tNil))) (tCallR sp__law_pick (fun _ => E0) (tCons (tVar 0) (tCons (tC (.int 2)) tNil)))) (tCons (tCallR sp__law_small_term (fun _ => E0) (tCons (tVar 0) (tCons (tVar 1) tNil))) tNil))))) tNil))))
    (tRet (tVar 2)))))
theorem b__law_opening {P : Program} {w : World} {K : PySem.W.Frag} {mg : Str → Option Value} {base : Heap} {k k__law_pick k__law_small_term : Nat} {sp__law_pick sp__law_small_term : Sp} {fa : Addr} {cdv : Value} {A : Around} {outer : List Env} {s0 : Shared} {H0 : Hp} {E : XK} (T : TT K mg) (hr : Room k (A.deeper (envOfC q__law_opening (defScope s__law_opening) s0.heap.objs.size fa cdv)))
    (F__law_pick : FnR P w K mg base CX0 k__law_pick (He.ga K "_law_pick") sp__law_pick) (l__law_pick : k__law_pick ≤ k)
    (F__law_small_term : FnR P w K mg base CX0 k__law_small_term (He.ga K "_law_small_term") sp__law_small_term) (l__law_small_term : k__law_small_term ≤ k) :
    PSs (cxOf CX0 P w K mg base N__law_opening q__law_opening (defScope s__law_opening) fa cdv A outer s0 H0 E).nox (defBody s__law_opening) (t__law_opening K sp__law_pick sp__law_small_term) := by
  exact ((pss_cons (ps_set (i := 2) sc__law_opening.nd rfl (by first | exact Or.inl rfl | exact Or.inr rfl) (pe_lst pa_nil))
      (pss_cons (ps_if (pt_cmpR (op_eqG hr.units) (pe_cf F__law_pick (hr.mono l__law_pick) (kp__law_pick T) (g__law_pick T) at0 (pa_cons (pv 0) (pa_cons pe_int pa_nil))) pe_int (nomark _)) (pss_cons (ps_set (i := 3) sc__law_opening.nd rfl (by first | exact Or.inl rfl | exact Or.inr rfl) (pe_ix ix_seq (pe_lst (pa_cons pe_int (pa_cons pe_int (pa_cons pe_int (pa_cons pe_int (pa_cons pe_int (pa_cons pe_int (pa_cons pe_int (pa_cons pe_int (pa_cons pe_int pa_nil)))))))))) (pe_cf F__law_pick (hr.mono l__law_pick) (kp__law_pick T) (g__law_pick T) at0 (pa_cons (pv 0) (pa_cons pe_int pa_nil))) (fun _ _ => rfl)))
      (pss_cons (ps_if (pt_cmpR op_gt (pv 3) pe_int (nomark _)) (pss_one (ps_expr (pe_bm PySem.F.plainAttrs_list PySem.F.slot_list_append PySem.F.type_list_append mt_append (pv 2) (pa_cons (pe_tup (pa_cons pe_str (pa_cons (pv 3) pa_nil))) pa_nil)))) pss_nil)
      (pss_one (ps_for PassesOwn.never rfl (pi_range1 rfl (m_range T) (pa_cons (pe_op op_addG pe_int (pe_cf F__law_pick (hr.mono l__law_pick) (kp__law_pick T) (g__law_pick T) at0 (pa_cons (pv 0) (pa_cons pe_int pa_nil)))) pa_nil)) (pg_name (i := 4) sc__law_opening.nd rfl (by first | exact Or.inl rfl | exact Or.inr rfl)) (pss_one (ps_expr (pe_bm PySem.F.plainAttrs_list PySem.F.slot_list_append PySem.F.type_list_append mt_append (pv 2) (pa_cons (pe_tup (pa_cons pe_str (pa_cons (pe_ix ix_seq (pv 1) (pe_op op_modN (pe_callTy call_intG (by rfl) (m_int T) (by decide +kernel) (pa_cons (pv 4) pa_nil)) (pe_callB call_lenG (by rfl) (m_len T) boot_len (pa_cons (pv 1) pa_nil))) (fun _ _ => rfl)) (pa_cons pe_str (pa_cons (pv 4) pa_nil))))) pa_nil)))))))) pss_nil)
      (pss_cons (ps_for PassesOwn.never rfl (pi_list (pe_slice sl_G (pv 1) po_none (po_some (pe_cf F__law_pick (hr.mono l__law_pick) (kp__law_pick T) (g__law_pick T) at0 (pa_cons (pv 0) (pa_cons (pe_op op_addG (pe_callB call_lenG (by rfl) (m_len T) boot_len (pa_cons (pv 1) pa_nil)) pe_int) pa_nil)))))) (pg_name (i := 5) sc__law_opening.nd rfl (by first | exact Or.inl rfl | exact Or.inr rfl)) (pss_one (ps_expr (pe_bm PySem.F.plainAttrs_list PySem.F.slot_list_append PySem.F.type_list_append mt_append (pv 2) (pa_cons (pe_tup (pa_cons pe_str (pa_cons (pv 5) (pa_cons (pe_ix ix_seq (pe_lst (pa_cons pe_str (pa_cons pe_str pa_nil))) (pe_cf F__law_pick (hr.mono l__law_pick) (kp__law_pick T) (g__law_pick T) at0 (pa_cons (pv 0) (pa_cons pe_int pa_nil))) (fun _ _ => rfl)) (pa_cons (pe_cf F__law_small_term (hr.mono l__law_small_term) (kp__law_small_term T) (g__law_small_term T) at0 (pa_cons (pv 0) (pa_cons (pv 1) pa_nil))) pa_nil))))) pa_nil)))))
      (pss_one (ps_ret (pv 2)))))))
def t__law_deeds (K : PySem.W.Frag) (sp__law_pick : Sp) (sp__law_edit : Sp) : TS :=
  (tSeq (tAsg (tCallR sp__law_pick (fun _ => E0) (tCons (tVar 0) (tCons (tC (.int 16)) tNil))) (gName 3))
    (tSeq (tIfS (tTest (tOp rLt (tVar 3) (tC (.int 6)))) (tRet (tLst (tCons (tCallR sp__law_edit (fun _ => E0) (tCons (tVar 0) (tCons (tVar 1) (tCons (tVar 2) tNil)))) tNil))) tNext)
    (tSeq (tIfS (tTest (tOp rLt (tVar 3) (tC (.int 9)))) (tRet (tLst (tCons (tTup (tCons (tC (.str (PySem.Str.ofString "run"))) (tCons (tLc (iRng1 (tCons (tCallR sp__law_pick (fun _ => E0) (tCons (tVar 0) (tCons (tC (.int 5)) tNil))) tNil)) (gName 4) tYes (tCallR sp__law_edit (fun _ => E0) (tCons (tVar 0) (tCons (tVar 1) (tCons (tVar 2) tNil)))) [4]) tNil))) tNil))) tNext)
    (tSeq (tIfS (tTest (tOp rLt (tVar 3) (tC (.int 14)))) (tRet (tOp rMulG (tLst (tCons (tTup (tCons (tOp (rIx K) (tLst (tCons (tC (.str (PySem.Str.ofString "undo"))) (tCons (tC (.str (PySem.Str.ofString "redo"))) tNil))) (tCB rIntG (tCons (tOp rGt (tVar 3) (tC (.int 11))) tNil))) tNil)) tNil)) (tOp (rIx K) (tLst (tCons (tC (.int 1)) (tCons (tC (.int 1)) (tCons (tC (.int 2)) (tCons (tC (.int 3)) (tCons (tC (.int 5)) tNil)))))) (tCallR sp__law_pick (fun _ => E0) (tCons (tVar 0) (tCons (tC (.int 5)) tNil)))))) tNext)
    (tRet (tLst (tCons (tTup (tCons (tC (.str (PySem.Str.ofString "keep"))) (tCons (tOp (rIx K) (tLst (tCons (tC (.int 0)) (tCons (tC (.int 1)) (tCons (tC (.int 2)) (tCons (tC (.int 3)) (tCons (tC (.int 5)) (tCons (tC (.int 20)) (tCons (tC (.int 100)) (tCons (tC (.int 101)) (tCons (tOp (rAddG K) (tC (.int 1)) (tCallR sp__law_pick (fun _ => E0) (tCons (tVar 0) (tCons (tC (.int 100)) tNil)))) tNil)))))))))) (tCallR sp__law_pick (fun _ => E0) (tCons (tVar 0) (tCons (tC (.int 9)) tNil)))) tNil))) tNil)))))))
theorem b__law_deeds {P : Program} {w : World} {K : PySem.W.Frag} {mg : Str → Option Value} {base : Heap} {k k__law_pick k__law_edit : Nat} {sp__law_pick sp__law_edit : Sp} {fa : Addr} {cdv : Value} {A : Around} {outer : List Env} {s0 : Shared} {H0 : Hp} {E : XK} (T : TT K mg) (hr : Room k (A.deeper (envOfC q__law_deeds (defScope s__law_deeds) s0.heap.objs.size fa cdv)))
    (F__law_pick : FnR P w K mg base CX0 k__law_pick (He.ga K "_law_pick") sp__law_pick) (l__law_pick : k__law_pick ≤ k)
    (F__law_edit : FnR P w K mg base CX0 k__law_edit (He.ga K "_law_edit") sp__law_edit) (l__law_edit : k__law_edit ≤ k) :
    PSs (cxOf CX0 P w K mg base N__law_deeds q__law_deeds (defScope s__law_deeds) fa cdv A outer s0 H0 E).nox (defBody s__law_deeds) (t__law_deeds K sp__law_pick sp__law_edit) := by
  exact ((pss_cons (ps_set (i := 3) sc__law_deeds.nd rfl (by first | exact Or.inl rfl | exact Or.inr rfl) (pe_cf F__law_pick (hr.mono l__law_pick) (kp__law_pick T) (g__law_pick T) at0 (pa_cons (pv 0) (pa_cons pe_int pa_nil))))
      (pss_cons (ps_if (pt_cmpR op_lt (pv 3) pe_int (nomark _)) (pss_one (ps_ret (pe_lst (pa_cons (pe_cf F__law_edit (hr.mono l__law_edit) (kp__law_edit T) (g__law_edit T) at0 (pa_cons (pv 0) (pa_cons (pv 1) (pa_cons (pv 2) pa_nil)))) pa_nil)))) pss_nil)
      (pss_cons (ps_if (pt_cmpR op_lt (pv 3) pe_int (nomark _)) (pss_one (ps_ret (pe_lst (pa_cons (pe_tup (pa_cons pe_str (pa_cons (pe_lc (own := [("y", 4)]) (g := gName 4) (tt := tYes) rfl sc__law_deeds.nd (pi_range1 rfl (m_range T) (pa_cons (pe_cf F__law_pick (hr.mono l__law_pick) (kp__law_pick T) (g__law_pick T) at0 (pa_cons (pv 0) (pa_cons pe_int pa_nil))) pa_nil)) (blkOk_by (own := [("y", 4)]) (N := N__law_deeds) (sc := defScope s__law_deeds) (by decide +kernel)) (fun _ _ _ _ _ => pg_name (i := 4) sc__law_deeds.nd rfl (Or.inl rfl)) (fun _ _ _ _ _ => pts_nil) (fun _ _ _ _ _ => (pe_cf F__law_edit (hr.mono l__law_edit) (kp__law_edit T) (g__law_edit T) at0 (pa_cons (pv 0) (pa_cons (pv 1) (pa_cons (pv 2) pa_nil)))))) pa_nil))) pa_nil)))) pss_nil)
      (pss_cons (ps_if (pt_cmpR op_lt (pv 3) pe_int (nomark _)) (pss_one (ps_ret (pe_op op_mulG (pe_lst (pa_cons (pe_tup (pa_cons (pe_ix ix_seq (pe_lst (pa_cons pe_str (pa_cons pe_str pa_nil))) (pe_callTy call_intG (by rfl) (m_int T) (by decide +kernel) (pa_cons (pe_cmpR op_gt (pv 3) pe_int (nomark _)) pa_nil)) (fun _ _ => rfl)) pa_nil)) pa_nil)) (pe_ix ix_seq (pe_lst (pa_cons pe_int (pa_cons pe_int (pa_cons pe_int (pa_cons pe_int (pa_cons pe_int pa_nil)))))) (pe_cf F__law_pick (hr.mono l__law_pick) (kp__law_pick T) (g__law_pick T) at0 (pa_cons (pv 0) (pa_cons pe_int pa_nil))) (fun _ _ => rfl))))) pss_nil)
      (pss_one (ps_ret (pe_lst (pa_cons (pe_tup (pa_cons pe_str (pa_cons (pe_ix ix_seq (pe_lst (pa_cons pe_int (pa_cons pe_int (pa_cons pe_int (pa_cons pe_int (pa_cons pe_int (pa_cons pe_int (pa_cons pe_int (pa_cons pe_int (pa_cons (pe_op op_addG pe_int (pe_cf F__law_pick (hr.mono l__law_pick) (kp__law_pick T) (g__law_pick T) at0 (pa_cons (pv 0) (pa_cons pe_int pa_nil)))) pa_nil)))))))))) (pe_cf F__law_pick (hr.mono l__law_pick) (kp__law_pick T) (g__law_pick T) at0 (pa_cons (pv 0) (pa_cons pe_int pa_nil))) (fun _ _ => rfl)) pa_nil))) pa_nil)))))))))
def t__law_reason (K : PySem.W.Frag) : TS :=
  (tSeq (tIfS (tTest (tOp (rEqG K) (tOp (rIx K) (tVar 1) (tC (.int 0))) (tC (.str (PySem.Str.ofString "put"))))) (tSeq (tIfS (tTest (tOp (rInG K) (tOp (rIx K) (tVar 1) (tC (.int 1))) (tLst (tCons (tC (.str (PySem.Str.ofString ""))) (tCons (tC (.str (PySem.Str.ofString "a1"))) tNil))))) (tRet (tC (.str (PySem.Str.ofString "name")))) tNext)
    (tSeq (tIfS (tTest (tOp (rNotInG K) (tOp (rIx K) (tVar 1) (tC (.int 2))) (tLst (tCons (tC (.str (PySem.Str.ofString "aim"))) (tCons (tC (.str (PySem.Str.ofString "tree"))) tNil))))) (tRet (tC (.str (PySem.Str.ofString "kind")))) tNext)
    (tRet (tOp (rIx K) (tLst (tCons (tC (.str (PySem.Str.ofString ""))) (tCons (tC (.str (PySem.Str.ofString "term"))) tNil))) (tCB rIntG (tCons (tOp (rEqG K) (tOp (rIx K) (tVar 1) (tC (.int 3))) (tTup (tCons (tC (.str (PySem.Str.ofString "first"))) (tCons (tUn (rU fun i => .int (-i)) (tC (.int 1))) tNil)))) tNil)))))) tNext)
    (tSeq (tIfS (tB (tDNotIn (tOp (rIx K) (tVar 1) (tC (.int 1))) (tVar 0))) (tRet (tC (.str (PySem.Str.ofString "unknown")))) tNext)
    (tSeq (tIfS (tAnd (tTest (tOp (rEqG K) (tOp (rIx K) (tVar 1) (tC (.int 0))) (tC (.str (PySem.Str.ofString "rename"))))) (tOr (tTest (tOp (rEqG K) (tOp (rIx K) (tVar 1) (tC (.int 2))) (tC (.str (PySem.Str.ofString ""))))) (tB (tDIn (tOp (rIx K) (tVar 1) (tC (.int 2))) (tVar 0))))) (tRet (tC (.str (PySem.Str.ofString "new")))) tNext)
    (tRet (tC (.str (PySem.Str.ofString "")))))))
theorem b__law_reason {P : Program} {w : World} {K : PySem.W.Frag} {mg : Str → Option Value} {base : Heap} {k : Nat} {fa : Addr} {cdv : Value} {A : Around} {outer : List Env} {s0 : Shared} {H0 : Hp} {E : XK} (T : TT K mg) (hr : Room k (A.deeper (envOfC q__law_reason (defScope s__law_reason) s0.heap.objs.size fa cdv)))
     :
    PSs (cxOf CX0 P w K mg base N__law_reason q__law_reason (defScope s__law_reason) fa cdv A outer s0 H0 E).nox (defBody s__law_reason) (t__law_reason K) := by
  exact ((pss_cons (ps_if (pt_cmpR (op_eqG hr.units) (pe_ix ix_seq (pv 1) pe_int (fun _ _ => rfl)) pe_str (nomark _)) (pss_cons (ps_if (pt_cmpR op_inG (pe_ix ix_seq (pv 1) pe_int (fun _ _ => rfl)) (pe_lst (pa_cons pe_str (pa_cons pe_str pa_nil))) (by rfl)) (pss_one (ps_ret pe_str)) pss_nil)
      (pss_cons (ps_if (pt_cmpR op_notInG (pe_ix ix_seq (pv 1) pe_int (fun _ _ => rfl)) (pe_lst (pa_cons pe_str (pa_cons pe_str pa_nil))) (by rfl)) (pss_one (ps_ret pe_str)) pss_nil)
      (pss_one (ps_ret (pe_ix ix_seq (pe_lst (pa_cons pe_str (pa_cons pe_str pa_nil))) (pe_callTy call_intG (by rfl) (m_int T) (by decide +kernel) (pa_cons (pe_cmpR (op_eqG hr.units) (pe_ix ix_seq (pv 1) pe_int (fun _ _ => rfl)) (pe_tup (pa_cons pe_str (pa_cons (pe_un un_neg pe_int) pa_nil))) (nomark _)) pa_nil)) (fun _ _ => rfl)))))) pss_nil)
      (pss_cons (ps_if (pt_cmp (pc_dnotin (hu_of hr) (pe_ix ix_seq (pv 1) pe_int (fun _ _ => rfl)) (pv 0))) (pss_one (ps_ret pe_str)) pss_nil)
      (pss_cons (ps_if (PW.pt (pw_and (pt_cmpR (op_eqG hr.units) (pe_ix ix_seq (pv 1) pe_int (fun _ _ => rfl)) pe_str (nomark _)) (pw_and1 (PW.pt (pw_or (pt_cmpR (op_eqG hr.units) (pe_ix ix_seq (pv 1) pe_int (fun _ _ => rfl)) pe_str (nomark _)) (pw_or1 (pt_cmp (pc_din (hu_of hr) (pe_ix ix_seq (pv 1) pe_int (fun _ _ => rfl)) (pv 0))))))))) (pss_one (ps_ret pe_str)) pss_nil)
      (pss_one (ps_ret pe_str))))))
def t__law_renamed (K : PySem.W.Frag) (sp__law_renamed : Sp) : TS :=
  (tSeq (tIfS (tNot (tB (tCB (rIsi K) (tCons (tVar 0) (tCons (tC (.ty "tuple")) tNil))))) (tRet (tVar 0)) tNext)
    (tSeq (tIfS (tAnd (tTest (tOp (rEqG K) (tCB (rLenG K) (tCons (tVar 0) tNil)) (tC (.int 2)))) (tAnd (tTest (tOp (rEqG K) (tOp (rIx K) (tVar 0) (tC (.int 0))) (tOp (rIx K) (tVar 1) (tC (.int 0))))) (tTest (tOp (rEqG K) (tOp (rIx K) (tVar 0) (tC (.int 1))) (tOp (rIx K) (tVar 1) (tC (.int 1))))))) (tRet (tTup (tCons (tOp (rIx K) (tVar 1) (tC (.int 0))) (tCons (tVar 2) tNil)))) tNext)
    (tRet (tThen (tLc (iTup K (tVar 0)) (gName 3) tYes (tCallR sp__law_renamed (fun _ => E0) (tCons (tVar 3) (tCons (tVar 1) (tCons (tVar 2) tNil)))) [3]) (kTup K)))))
theorem b__law_renamed {P : Program} {w : World} {K : PySem.W.Frag} {mg : Str → Option Value} {base : Heap} {k k__law_renamed : Nat} {sp__law_renamed : Sp} {fa : Addr} {cdv : Value} {A : Around} {outer : List Env} {s0 : Shared} {H0 : Hp} {E : XK} (T : TT K mg) (hr : Room k (A.deeper (envOfC q__law_renamed (defScope s__law_renamed) s0.heap.objs.size fa cdv)))
    (F__law_renamed : FnR P w K mg base CX0 k__law_renamed (He.ga K "_law_renamed") sp__law_renamed) (l__law_renamed : k__law_renamed ≤ k) :
    PSs (cxOf CX0 P w K mg base N__law_renamed q__law_renamed (defScope s__law_renamed) fa cdv A outer s0 H0 E).nox (defBody s__law_renamed) (t__law_renamed K sp__law_renamed) := by
  exact ((pss_cons (ps_if (pt_not (pt_val (pe_callB call_isi (by rfl) (m_isinstance T) (by decide +kernel) (pa_cons (pv 0) (pa_cons (pe_bltn (v := .ty "tuple") rfl (m_tuple T) (by decide +kernel) rfl) pa_nil))))) (pss_one (ps_ret (pv 0))) pss_nil)
      (pss_cons (ps_if (PW.pt (pw_and (pt_cmpR (op_eqG hr.units) (pe_callB call_lenG (by rfl) (m_len T) boot_len (pa_cons (pv 0) pa_nil)) pe_int (nomark _)) (pw_and (pt_cmpR (op_eqG hr.units) (pe_ix ix_seq (pv 0) pe_int (fun _ _ => rfl)) (pe_ix ix_seq (pv 1) pe_int (fun _ _ => rfl)) (nomark _)) (pw_and1 (pt_cmpR (op_eqG hr.units) (pe_ix ix_seq (pv 0) pe_int (fun _ _ => rfl)) (pe_ix ix_seq (pv 1) pe_int (fun _ _ => rfl)) (nomark _)))))) (pss_one (ps_ret (pe_tup (pa_cons (pe_ix ix_seq (pv 1) pe_int (fun _ _ => rfl)) (pa_cons (pv 2) pa_nil))))) pss_nil)
      (pss_one (ps_ret (pe_tupleOf rfl (m_tuple T) (pe_lc (own := [("item", 3)]) (g := gName 3) (tt := tYes) rfl sc__law_renamed.nd (pi_tup (pv 0)) (blkOk_by (own := [("item", 3)]) (N := N__law_renamed) (sc := defScope s__law_renamed) (by decide +kernel)) (fun _ _ _ _ _ => pg_name (i := 3) sc__law_renamed.nd rfl (Or.inl rfl)) (fun _ _ _ _ _ => pts_nil) (fun _ _ _ _ _ => (pe_cf F__law_renamed (hr.mono l__law_renamed) (kp__law_renamed T) (g__law_renamed T) at0 (pa_cons (pv 3) (pa_cons (pv 1) (pa_cons (pv 2) pa_nil))))))))))))
def t__law_edited (K : PySem.W.Frag) (sp__law_renamed : Sp) : TS :=
  (tSeq (tAsg tDNewK (gName 2))
    (tSeq (tLock (tFor (iKeys (tVar 0)) (gName 3) (tIfS (tOr (tTest (tOp (rEqG K) (tOp (rIx K) (tVar 1) (tC (.int 0))) (tC (.str (PySem.Str.ofString "put"))))) (tTest (tOp (rNeG K) (tVar 3) (tOp (rIx K) (tVar 1) (tC (.int 1)))))) (sDPut (tVar 2) (tVar 3) (tDGet (tVar 0) (tVar 3))) tNext)))
    (tSeq (tIfS (tTest (tOp (rEqG K) (tOp (rIx K) (tVar 1) (tC (.int 0))) (tC (.str (PySem.Str.ofString "put"))))) (sDPut (tVar 2) (tOp (rIx K) (tVar 1) (tC (.int 1))) (tTup (tCons (tOp (rIx K) (tVar 1) (tC (.int 2))) (tCons (tOp (rIx K) (tVar 1) (tC (.int 3))) tNil)))) tNext)
    (tSeq (tIfS (tTest (tOp (rNeG K) (tOp (rIx K) (tVar 1) (tC (.int 0))) (tC (.str (PySem.Str.ofString "rename"))))) (tRet (tVar 2)) tNext)
    (tSeq (sDPut (tVar 2) (tOp (rIx K) (tVar 1) (tC (.int 2))) (tDGet (tVar 0) (tOp (rIx K) (tVar 1) (tC (.int 1)))))
    (tSeq (tAsg (tTup (tCons (tOp (rIx K) (tDGet (tVar 0) (tOp (rIx K) (tVar 1) (tC (.int 1)))) (tC (.int 0))) (tCons (tOp (rIx K) (tVar 1) (tC (.int 1))) tNil))) (gName 4))
    (tSeq (tAsg tDNewK (gName 5))
    (tSeq (tLock (tFor (iKeys (tVar 2)) (gName 3) (sDPut (tVar 5) (tVar 3) (tTup (tCons (tOp (rIx K) (tDGet (tVar 2) (tVar 3)) (tC (.int 0))) (tCons (tCallR sp__law_renamed (fun _ => E0) (tCons (tOp (rIx K) (tDGet (tVar 2) (tVar 3)) (tC (.int 1))) (tCons (tVar 4) (tCons (tOp (rIx K) (tVar 1) (tC (.int 2))) tNil)))) tNil))))))
    (tRet (tVar 5))))))))))
theorem b__law_edited {P : Program} {w : World} {K : PySem.W.Frag} {mg : Str → Option Value} {base : Heap} {k k__law_renamed : Nat} {sp__law_renamed : Sp} {fa : Addr} {cdv : Value} {A : Around} {outer : List Env} {s0 : Shared} {H0 : Hp} {E : XK} (T : TT K mg) (hr : Room k (A.deeper (envOfC q__law_edited (defScope s__law_edited) s0.heap.objs.size fa cdv)))
    (F__law_renamed : FnR P w K mg base CX0 k__law_renamed (He.ga K "_law_renamed") sp__law_renamed) (l__law_renamed : k__law_renamed ≤ k) :
    PSs (cxOf CX0 P w K mg base N__law_edited q__law_edited (defScope s__law_edited) fa cdv A outer s0 H0 E).nox (defBody s__law_edited) (t__law_edited K sp__law_renamed) := by
  exact ((pss_cons (ps_set (i := 2) sc__law_edited.nd rfl (by first | exact Or.inl rfl | exact Or.inr rfl) pe_dnewK)
      (pss_cons (ps_lock (ps_for PassesOwn.never rfl (pi_keys (pv 0)) (pg_name (i := 3) sc__law_edited.nd rfl (by first | exact Or.inl rfl | exact Or.inr rfl)) (pss_one (ps_if (PW.pt (pw_or (pt_cmpR (op_eqG hr.units) (pe_ix ix_seq (pv 1) pe_int (fun _ _ => rfl)) pe_str (nomark _)) (pw_or1 (pt_cmpR (op_neG hr.units) (pv 3) (pe_ix ix_seq (pv 1) pe_int (fun _ _ => rfl)) (nomark _))))) (pss_one (ps_dput (hu_of hr) (pv 2) (pv 3) (pe_dget (hu_of hr) (pv 0) (pv 3) (fun _ _ => rfl)) rfl)) pss_nil))))
      (pss_cons (ps_if (pt_cmpR (op_eqG hr.units) (pe_ix ix_seq (pv 1) pe_int (fun _ _ => rfl)) pe_str (nomark _)) (pss_one (ps_dput (hu_of hr) (pv 2) (pe_ix ix_seq (pv 1) pe_int (fun _ _ => rfl)) (pe_tup (pa_cons (pe_ix ix_seq (pv 1) pe_int (fun _ _ => rfl)) (pa_cons (pe_ix ix_seq (pv 1) pe_int (fun _ _ => rfl)) pa_nil))) rfl)) pss_nil)
      (pss_cons (ps_if (pt_cmpR (op_neG hr.units) (pe_ix ix_seq (pv 1) pe_int (fun _ _ => rfl)) pe_str (nomark _)) (pss_one (ps_ret (pv 2))) pss_nil)
      (pss_cons (ps_dput (hu_of hr) (pv 2) (pe_ix ix_seq (pv 1) pe_int (fun _ _ => rfl)) (pe_dget (hu_of hr) (pv 0) (pe_ix ix_seq (pv 1) pe_int (fun _ _ => rfl)) (fun _ _ => rfl)) rfl)
      (pss_cons (ps_set (i := 4) sc__law_edited.nd rfl (by first | exact Or.inl rfl | exact Or.inr rfl) (pe_tup (pa_cons (pe_ix ix_seq (pe_dget (hu_of hr) (pv 0) (pe_ix ix_seq (pv 1) pe_int (fun _ _ => rfl)) (fun _ _ => rfl)) pe_int (fun _ _ => rfl)) (pa_cons (pe_ix ix_seq (pv 1) pe_int (fun _ _ => rfl)) pa_nil))))
      (pss_cons (ps_set (i := 5) sc__law_edited.nd rfl (by first | exact Or.inl rfl | exact Or.inr rfl) pe_dnewK)
      (pss_cons (ps_lock (ps_for PassesOwn.never rfl (pi_keys (pv 2)) (pg_name (i := 3) sc__law_edited.nd rfl (by first | exact Or.inl rfl | exact Or.inr rfl)) (pss_one (ps_dput (hu_of hr) (pv 5) (pv 3) (pe_tup (pa_cons (pe_ix ix_seq (pe_dget (hu_of hr) (pv 2) (pv 3) (fun _ _ => rfl)) pe_int (fun _ _ => rfl)) (pa_cons (pe_cf F__law_renamed (hr.mono l__law_renamed) (kp__law_renamed T) (g__law_renamed T) at0 (pa_cons (pe_ix ix_seq (pe_dget (hu_of hr) (pv 2) (pv 3) (fun _ _ => rfl)) pe_int (fun _ _ => rfl)) (pa_cons (pv 4) (pa_cons (pe_ix ix_seq (pv 1) pe_int (fun _ _ => rfl)) pa_nil)))) pa_nil))) rfl))))
      (pss_one (ps_ret (pv 5))))))))))))
def t__law_step (K : PySem.W.Frag) : TS :=
  (tSeq (tAsg (L2.tSl (rSlG K) (tOp (rAddG K) (tOp (rIx K) (tVar 0) (tC (.int 1))) (tLst (tCons (tOp (rIx K) (tVar 0) (tC (.int 0))) tNil))) (tPart (tUn (rU fun i => .int (-i)) (tOp (rIx K) (tVar 0) (tC (.int 3))))) tNoPart) (gSub (tVar 0) (tC (.int 1)) rSetL))
    (tSeq (tAsg (tLst tNil) (gSub (tVar 0) (tC (.int 2)) rSetL))
    (tSeq (tAsg (tVar 1) (gSub (tVar 0) (tC (.int 0)) rSetL))
    (tRet (tTup (tCons (tC (.str (PySem.Str.ofString "done"))) (tCons (tC (.bl true)) tNil)))))))
theorem b__law_step {P : Program} {w : World} {K : PySem.W.Frag} {mg : Str → Option Value} {base : Heap} {k : Nat} {fa : Addr} {cdv : Value} {A : Around} {outer : List Env} {s0 : Shared} {H0 : Hp} {E : XK} (T : TT K mg) (hr : Room k (A.deeper (envOfC q__law_step (defScope s__law_step) s0.heap.objs.size fa cdv)))
     :
    PSs (cxOf CX0 P w K mg base N__law_step q__law_step (defScope s__law_step) fa cdv A outer s0 H0 E).nox (defBody s__law_step) (t__law_step K) := by
  exact ((pss_cons (ps_asg (pe_slice sl_G (pe_op op_addG (pe_ix ix_seq (pv 0) pe_int (fun _ _ => rfl)) (pe_lst (pa_cons (pe_ix ix_seq (pv 0) pe_int (fun _ _ => rfl)) pa_nil))) (po_some (pe_un un_neg (pe_ix ix_seq (pv 0) pe_int (fun _ _ => rfl)))) po_none) (pg_sub (pv 0) pe_int set_list))
      (pss_cons (ps_asg (pe_lst pa_nil) (pg_sub (pv 0) pe_int set_list))
      (pss_cons (ps_asg (pv 1) (pg_sub (pv 0) pe_int set_list))
      (pss_one (ps_ret (pe_tup (pa_cons pe_str (pa_cons pe_bl pa_nil)))))))))
def t__law_run_due (K : PySem.W.Frag) (sp__law_reason : Sp) (sp__law_edited : Sp) (sp__law_step : Sp) : TS :=
  (tSeq (tAsg (tOp (rIx K) (tVar 0) (tC (.int 0))) (gName 2))
    (tSeq (tFor (iRng1 (tCons (tCB (rLenG K) (tCons (tVar 1) tNil)) tNil)) (gName 3) (tSeq (tIfS (tTest (tOp (rNeG K) (tCallR sp__law_reason (fun _ => E0) (tCons (tVar 2) (tCons (tOp (rIx K) (tVar 1) (tVar 3)) tNil))) (tC (.str (PySem.Str.ofString ""))))) (tRet (tTup (tCons (tC (.str (PySem.Str.ofString "failed"))) (tCons (tVar 3) tNil)))) tNext)
    (tAsg (tCallR sp__law_edited (fun _ => E0) (tCons (tVar 2) (tCons (tOp (rIx K) (tVar 1) (tVar 3)) tNil))) (gName 2))))
    (tSeq (tIfS (tTest (tOp rGt (tCB (rLenG K) (tCons (tVar 1) tNil)) (tC (.int 0)))) (tRet (tCallR sp__law_step (fun _ => E0) (tCons (tVar 0) (tCons (tVar 2) tNil)))) tNext)
    (tRet (tTup (tCons (tC (.str (PySem.Str.ofString "done"))) (tCons (tC (.bl true)) tNil)))))))
theorem b__law_run_due {P : Program} {w : World} {K : PySem.W.Frag} {mg : Str → Option Value} {base : Heap} {k k__law_reason k__law_edited k__law_step : Nat} {sp__law_reason sp__law_edited sp__law_step : Sp} {fa : Addr} {cdv : Value} {A : Around} {outer : List Env} {s0 : Shared} {H0 : Hp} {E : XK} (T : TT K mg) (hr : Room k (A.deeper (envOfC q__law_run_due (defScope s__law_run_due) s0.heap.objs.size fa cdv)))
    (F__law_reason : FnR P w K mg base CX0 k__law_reason (He.ga K "_law_reason") sp__law_reason) (l__law_reason : k__law_reason ≤ k)
    (F__law_edited : FnR P w K mg base CX0 k__law_edited (He.ga K "_law_edited") sp__law_edited) (l__law_edited : k__law_edited ≤ k)
    (F__law_step : FnR P w K mg base CX0 k__law_step (He.ga K "_law_step") sp__law_step) (l__law_step : k__law_step ≤ k) :
    PSs (cxOf CX0 P w K mg base N__law_run_due q__law_run_due (defScope s__law_run_due) fa cdv A outer s0 H0 E).nox (defBody s__law_run_due) (t__law_run_due K sp__law_reason sp__law_edited sp__law_step) := by
  exact ((pss_cons (ps_set (i := 2) sc__law_run_due.nd rfl (by first | exact Or.inl rfl | exact Or.inr rfl) (pe_ix ix_seq (pv 0) pe_int (fun _ _ => rfl)))
      (pss_cons (ps_for PassesOwn.never rfl (pi_range1 rfl (m_range T) (pa_cons (pe_callB call_lenG (by rfl) (m_len T) boot_len (pa_cons (pv 1) pa_nil)) pa_nil)) (pg_name (i := 3) sc__law_run_due.nd rfl (by first | exact Or.inl rfl | exact Or.inr rfl)) (pss_cons (ps_if (pt_cmpR (op_neG hr.units) (pe_cf F__law_reason (hr.mono l__law_reason) (kp__law_reason T) (g__law_reason T) at0 (pa_cons (pv 2) (pa_cons (pe_ix ix_seq (pv 1) (pv 3) (fun _ _ => rfl)) pa_nil))) pe_str (nomark _)) (pss_one (ps_ret (pe_tup (pa_cons pe_str (pa_cons (pv 3) pa_nil))))) pss_nil)
      (pss_one (ps_set (i := 2) sc__law_run_due.nd rfl (by first | exact Or.inl rfl | exact Or.inr rfl) (pe_cf F__law_edited (hr.mono l__law_edited) (kp__law_edited T) (g__law_edited T) at0 (pa_cons (pv 2) (pa_cons (pe_ix ix_seq (pv 1) (pv 3) (fun _ _ => rfl)) pa_nil)))))))
      (pss_cons (ps_if (pt_cmpR op_gt (pe_callB call_lenG (by rfl) (m_len T) boot_len (pa_cons (pv 1) pa_nil)) pe_int (nomark _)) (pss_one (ps_ret (pe_cf F__law_step (hr.mono l__law_step) (kp__law_step T) (g__law_step T) at0 (pa_cons (pv 0) (pa_cons (pv 2) pa_nil))))) pss_nil)
      (pss_one (ps_ret (pe_tup (pa_cons pe_str (pa_cons pe_bl pa_nil)))))))))
def t__law_due (K : PySem.W.Frag) (sp__law_run_due : Sp) (sp__law_reason : Sp) (sp__law_step : Sp) (sp__law_edited : Sp) : TS :=
  (tSeq (tIfS (tTest (tOp (rEqG K) (tOp (rIx K) (tVar 1) (tC (.int 0))) (tC (.str (PySem.Str.ofString "run"))))) (tRet (tCallR sp__law_run_due (fun _ => E0) (tCons (tVar 0) (tCons (tOp (rIx K) (tVar 1) (tC (.int 1))) tNil)))) tNext)
    (tSeq (tIfS (tTest (tOp (rInG K) (tOp (rIx K) (tVar 1) (tC (.int 0))) (tLst (tCons (tC (.str (PySem.Str.ofString "undo"))) (tCons (tC (.str (PySem.Str.ofString "redo"))) tNil))))) (tSeq (tAsg (tCB rIntG (tCons (tOp (rEqG K) (tOp (rIx K) (tVar 1) (tC (.int 0))) (tC (.str (PySem.Str.ofString "redo")))) tNil)) (gName 2))
    (tSeq (tIfS (tTest (tOp (rEqG K) (tCB (rLenG K) (tCons (tOp (rIx K) (tVar 0) (tOp (rAddG K) (tC (.int 1)) (tVar 2))) tNil)) (tC (.int 0)))) (tRet (tTup (tCons (tC (.str (PySem.Str.ofString "refused"))) (tCons (tTup (tCons (tC (.bl false)) (tCons (tC (.bl true)) (tCons (tC (.bl false)) tNil)))) tNil)))) tNext)
    (tSeq (tDrop (tBM K "list" rAppend (tOp (rIx K) (tVar 0) (tOp rSub (tC (.int 2)) (tVar 2))) (tCons (tOp (rIx K) (tVar 0) (tC (.int 0))) tNil)))
    (tSeq (tAsg (tBM0 K "list" rPop (tOp (rIx K) (tVar 0) (tOp (rAddG K) (tC (.int 1)) (tVar 2)))) (gSub (tVar 0) (tC (.int 0)) rSetL))
    (tSeq (tAsg (L2.tSl (rSlG K) (tOp (rIx K) (tVar 0) (tC (.int 1))) (tPart (tUn (rU fun i => .int (-i)) (tOp (rIx K) (tVar 0) (tC (.int 3))))) tNoPart) (gSub (tVar 0) (tC (.int 1)) rSetL))
    (tRet (tTup (tCons (tC (.str (PySem.Str.ofString "done"))) (tCons (tC (.bl true)) tNil))))))))) tNext)
    (tSeq (tIfS (tTest (tOp (rEqG K) (tOp (rIx K) (tVar 1) (tC (.int 0))) (tC (.str (PySem.Str.ofString "keep"))))) (tSeq (tIfS (tOr (tTest (tOp rLt (tOp (rIx K) (tVar 1) (tC (.int 1))) (tC (.int 1)))) (tTest (tOp rGt (tOp (rIx K) (tVar 1) (tC (.int 1))) (tC (.int 100))))) (tRet (tTup (tCons (tC (.str (PySem.Str.ofString "refused"))) (tCons (tTup (tCons (tC (.bl false)) (tCons (tC (.bl false)) (tCons (tC (.bl true)) tNil)))) tNil)))) tNext)
    (tSeq (tAsg (tOp (rIx K) (tVar 1) (tC (.int 1))) (gSub (tVar 0) (tC (.int 3)) rSetL))
    (tSeq (tAsg (L2.tSl (rSlG K) (tOp (rIx K) (tVar 0) (tC (.int 1))) (tPart (tUn (rU fun i => .int (-i)) (tOp (rIx K) (tVar 1) (tC (.int 1))))) tNoPart) (gSub (tVar 0) (tC (.int 1)) rSetL))
    (tRet (tTup (tCons (tC (.str (PySem.Str.ofString "done"))) (tCons (tC (.bl true)) tNil))))))) tNext)
    (tSeq (tAsg (tCallR sp__law_reason (fun _ => E0) (tCons (tOp (rIx K) (tVar 0) (tC (.int 0))) (tCons (tVar 1) tNil))) (gName 3))
    (tSeq (tIfS (tTest (tOp (rNeG K) (tVar 3) (tC (.str (PySem.Str.ofString ""))))) (tRet (tTup (tCons (tC (.str (PySem.Str.ofString "refused"))) (tCons (tTup (tCons (tC (.bl false)) (tCons (tC (.bl false)) (tCons (tOp (rEqG K) (tVar 3) (tC (.str (PySem.Str.ofString "kind")))) tNil)))) tNil)))) tNext)
    (tRet (tCallR sp__law_step (fun _ => E0) (tCons (tVar 0) (tCons (tCallR sp__law_edited (fun _ => E0) (tCons (tOp (rIx K) (tVar 0) (tC (.int 0))) (tCons (tVar 1) tNil))) tNil)))))))))
theorem b__law_due {P : Program} {w : World} {K : PySem.W.Frag} {mg : Str → Option Value} {base : Heap} {k k__law_run_due k__law_reason k__law_step k__law_edited : Nat} {sp__law_run_due sp__law_reason sp__law_step sp__law_edited : Sp} {fa : Addr} {cdv : Value} {A : Around} {outer : List Env} {s0 : Shared} {H0 : Hp} {E : XK} (T : TT K mg) (hr : Room k (A.deeper (envOfC q__law_due (defScope s__law_due) s0.heap.objs.size fa cdv)))
    (F__law_run_due : FnR P w K mg base CX0 k__law_run_due (He.ga K "_law_run_due") sp__law_run_due) (l__law_run_due : k__law_run_due ≤ k)
    (F__law_reason : FnR P w K mg base CX0 k__law_reason (He.ga K "_law_reason") sp__law_reason) (l__law_reason : k__law_reason ≤ k)
    (F__law_step : FnR P w K mg base CX0 k__law_step (He.ga K "_law_step") sp__law_step) (l__law_step : k__law_step ≤ k)
    (F__law_edited : FnR P w K mg base CX0 k__law_edited (He.ga K "_law_edited") sp__law_edited) (l__law_edited : k__law_edited ≤ k) :
    PSs (cxOf CX0 P w K mg base N__law_due q__law_due (defScope s__law_due) fa cdv A outer s0 H0 E).nox (defBody s__law_due) (t__law_due K sp__law_run_due sp__law_reason sp__law_step sp__law_edited) := by
  exact ((pss_cons (ps_if (pt_cmpR (op_eqG hr.units) (pe_ix ix_seq (pv 1) pe_int (fun _ _ => rfl)) pe_str (nomark _)) (pss_one (ps_ret (pe_cf F__law_run_due (hr.mono l__law_run_due) (kp__law_run_due T) (g__law_run_due T) at0 (pa_cons (pv 0) (pa_cons (pe_ix ix_seq (pv 1) pe_int (fun _ _ => rfl)) pa_nil))))) pss_nil)
      (pss_cons (ps_if (pt_cmpR op_inG (pe_ix ix_seq (pv 1) pe_int (fun _ _ => rfl)) (pe_lst (pa_cons pe_str (pa_cons pe_str pa_nil))) (by rfl)) (pss_cons (ps_set (i := 2) sc__law_due.nd rfl (by first | exact Or.inl rfl | exact Or.inr rfl) (pe_callTy call_intG (by rfl) (m_int T) (by decide +kernel) (pa_cons (pe_cmpR (op_eqG hr.units) (pe_ix ix_seq (pv 1) pe_int (fun _ _ => rfl)) pe_str (nomark _)) pa_nil)))
      (pss_cons (ps_if (pt_cmpR (op_eqG hr.units) (pe_callB call_lenG (by rfl) (m_len T) boot_len (pa_cons (pe_ix ix_seq (pv 0) (pe_op op_addG pe_int (pv 2)) (fun _ _ => rfl)) pa_nil)) pe_int (nomark _)) (pss_one (ps_ret (pe_tup (pa_cons pe_str (pa_cons (pe_tup (pa_cons pe_bl (pa_cons pe_bl (pa_cons pe_bl pa_nil)))) pa_nil))))) pss_nil)
      (pss_cons (ps_expr (pe_bm PySem.F.plainAttrs_list PySem.F.slot_list_append PySem.F.type_list_append mt_append (pe_ix ix_seq (pv 0) (pe_op op_sub pe_int (pv 2)) (fun _ _ => rfl)) (pa_cons (pe_ix ix_seq (pv 0) pe_int (fun _ _ => rfl)) pa_nil)))
      (pss_cons (ps_asg (pe_bm0 PySem.F.plainAttrs_list PySem.F.slot_list_pop PySem.F.type_list_pop mt_pop (pe_ix ix_seq (pv 0) (pe_op op_addG pe_int (pv 2)) (fun _ _ => rfl))) (pg_sub (pv 0) pe_int set_list))
      (pss_cons (ps_asg (pe_slice sl_G (pe_ix ix_seq (pv 0) pe_int (fun _ _ => rfl)) (po_some (pe_un un_neg (pe_ix ix_seq (pv 0) pe_int (fun _ _ => rfl)))) po_none) (pg_sub (pv 0) pe_int set_list))
      (pss_one (ps_ret (pe_tup (pa_cons pe_str (pa_cons pe_bl pa_nil)))))))))) pss_nil)
      (pss_cons (ps_if (pt_cmpR (op_eqG hr.units) (pe_ix ix_seq (pv 1) pe_int (fun _ _ => rfl)) pe_str (nomark _)) (pss_cons (ps_if (PW.pt (pw_or (pt_cmpR op_lt (pe_ix ix_seq (pv 1) pe_int (fun _ _ => rfl)) pe_int (nomark _)) (pw_or1 (pt_cmpR op_gt (pe_ix ix_seq (pv 1) pe_int (fun _ _ => rfl)) pe_int (nomark _))))) (pss_one (ps_ret (pe_tup (pa_cons pe_str (pa_cons (pe_tup (pa_cons pe_bl (pa_cons pe_bl (pa_cons pe_bl pa_nil)))) pa_nil))))) pss_nil)
      (pss_cons (ps_asg (pe_ix ix_seq (pv 1) pe_int (fun _ _ => rfl)) (pg_sub (pv 0) pe_int set_list))
      (pss_cons (ps_asg (pe_slice sl_G (pe_ix ix_seq (pv 0) pe_int (fun _ _ => rfl)) (po_some (pe_un un_neg (pe_ix ix_seq (pv 1) pe_int (fun _ _ => rfl)))) po_none) (pg_sub (pv 0) pe_int set_list))
      (pss_one (ps_ret (pe_tup (pa_cons pe_str (pa_cons pe_bl pa_nil)))))))) pss_nil)
      (pss_cons (ps_set (i := 3) sc__law_due.nd rfl (by first | exact Or.inl rfl | exact Or.inr rfl) (pe_cf F__law_reason (hr.mono l__law_reason) (kp__law_reason T) (g__law_reason T) at0 (pa_cons (pe_ix ix_seq (pv 0) pe_int (fun _ _ => rfl)) (pa_cons (pv 1) pa_nil))))
      (pss_cons (ps_if (pt_cmpR (op_neG hr.units) (pv 3) pe_str (nomark _)) (pss_one (ps_ret (pe_tup (pa_cons pe_str (pa_cons (pe_tup (pa_cons pe_bl (pa_cons pe_bl (pa_cons (pe_cmpR (op_eqG hr.units) (pv 3) pe_str (nomark _)) pa_nil)))) pa_nil))))) pss_nil)
      (pss_one (ps_ret (pe_cf F__law_step (hr.mono l__law_step) (kp__law_step T) (g__law_step T) at0 (pa_cons (pv 0) (pa_cons (pe_cf F__law_edited (hr.mono l__law_edited) (kp__law_edited T) (g__law_edited T) at0 (pa_cons (pe_ix ix_seq (pv 0) pe_int (fun _ _ => rfl)) (pa_cons (pv 1) pa_nil))) pa_nil)))))))))))
def t__law_run_told (K : PySem.W.Frag) (sp_Desk_run : Sp) (E : XK) : TS :=
  (tSeq (tIfS (tTest (tOp (rEqG K) (tCB (rLenG K) (tCons (tVar 1) tNil)) (tC (.int 0)))) (tRet (tMethA (He.ga K "Desk") "run" sp_Desk_run (fun _ => E) (tVar 0) tNil)) tNext)
    (tSeq (tIfS (tTest (tOp (rEqG K) (tCB (rLenG K) (tCons (tVar 1) tNil)) (tC (.int 1)))) (tRet (tMethA (He.ga K "Desk") "run" sp_Desk_run (fun _ => E) (tVar 0) (tCons (tOp (rIx K) (tVar 1) (tC (.int 0))) tNil))) tNext)
    (tSeq (tIfS (tTest (tOp (rEqG K) (tCB (rLenG K) (tCons (tVar 1) tNil)) (tC (.int 2)))) (tRet (tMethA (He.ga K "Desk") "run" sp_Desk_run (fun _ => E) (tVar 0) (tCons (tOp (rIx K) (tVar 1) (tC (.int 0))) (tCons (tOp (rIx K) (tVar 1) (tC (.int 1))) tNil)))) tNext)
    (tSeq (tIfS (tTest (tOp (rEqG K) (tCB (rLenG K) (tCons (tVar 1) tNil)) (tC (.int 3)))) (tRet (tMethA (He.ga K "Desk") "run" sp_Desk_run (fun _ => E) (tVar 0) (tCons (tOp (rIx K) (tVar 1) (tC (.int 0))) (tCons (tOp (rIx K) (tVar 1) (tC (.int 1))) (tCons (tOp (rIx K) (tVar 1) (tC (.int 2))) tNil))))) tNext)
    (tSeq (tIfS (tTest (tOp (rEqG K) (tCB (rLenG K) (tCons (tVar 1) tNil)) (tC (.int 9)))) (tRet (tMethA (He.ga K "Desk") "run" sp_Desk_run (fun _ => E) (tVar 0) (tCons (tOp (rIx K) (tVar 1) (tC (.int 0))) (tCons (tOp (rIx K) (tVar 1) (tC (.int 1))) (tCons (tOp (rIx K) (tVar 1) (tC (.int 2))) (tCons (tOp (rIx K) (tVar 1) (tC (.int 3))) (tCons (tOp (rIx K) (tVar 1) (tC (.int 4))) (tCons (tOp (rIx K) (tVar 1) (tC (.int 5))) (tCons (tOp (rIx K) (tVar 1) (tC (.int 6))) (tCons (tOp (rIx K) (tVar 1) (tC (.int 7))) (tCons (tOp (rIx K) (tVar 1) (tC (.int 8))) tNil))))))))))) tNext)
    (tRet (tMethA (He.ga K "Desk") "run" sp_Desk_run (fun _ => E) (tVar 0) (tCons (tOp (rIx K) (tVar 1) (tC (.int 0))) (tCons (tOp (rIx K) (tVar 1) (tC (.int 1))) (tCons (tOp (rIx K) (tVar 1) (tC (.int 2))) (tCons (tOp (rIx K) (tVar 1) (tC (.int 3))) tNil)))))))))))
theorem b__law_run_told {P : Program} {w : World} {K : PySem.W.Frag} {mg : Str → Option Value} {base : Heap} {k k_Desk_run : Nat} {sp_Desk_run : Sp} {fa : Addr} {cdv : Value} {A : Around} {outer : List Env} {s0 : Shared} {H0 : Hp} {E : XK} (T : TT K mg) (hr : Room k (A.deeper (envOfC q__law_run_told (defScope s__law_run_told) s0.heap.objs.size fa cdv)))
    (F_Desk_run : FnR P w K mg base (L2.CX P w) k_Desk_run (He.ma K (He.ga K "Desk") "run") sp_Desk_run) (l_Desk_run : k_Desk_run ≤ k) :
    PSs (cxOf (L2.CX P w) P w K mg base N__law_run_told q__law_run_told (defScope s__law_run_told) fa cdv A outer s0 H0 E) (defBody s__law_run_told) (t__law_run_told K sp_Desk_run E) := by
  have tkX : L2.Takes (cxOf (L2.CX P w) P w K mg base N__law_run_told q__law_run_told (defScope s__law_run_told) fa cdv A outer s0 H0 E) (fun cls d _ H => E cls d H) := L2.takes_of rfl rfl rfl rfl
  exact ((pss_cons (ps_if (pt_cmpR (op_eqG hr.units) (pe_callB call_lenG (by rfl) (m_len T) boot_len (pa_cons (pv 1) pa_nil)) pe_int (nomark _)) (pss_one (ps_ret (pe_cm0 (pv 0) (cl_Desk T) (mt_Desk_run T) F_Desk_run (hr.mono l_Desk_run) (fun σ => L2.passAt tkX σ)))) pss_nil)
      (pss_cons (ps_if (pt_cmpR (op_eqG hr.units) (pe_callB call_lenG (by rfl) (m_len T) boot_len (pa_cons (pv 1) pa_nil)) pe_int (nomark _)) (pss_one (ps_ret (pe_cm (pv 0) (cl_Desk T) (mt_Desk_run T) F_Desk_run (hr.mono l_Desk_run) (fun σ => L2.passAt tkX σ) (pa_cons (pe_ix ix_seq (pv 1) pe_int (fun _ _ => rfl)) pa_nil)))) pss_nil)
      (pss_cons (ps_if (pt_cmpR (op_eqG hr.units) (pe_callB call_lenG (by rfl) (m_len T) boot_len (pa_cons (pv 1) pa_nil)) pe_int (nomark _)) (pss_one (ps_ret (pe_cm (pv 0) (cl_Desk T) (mt_Desk_run T) F_Desk_run (hr.mono l_Desk_run) (fun σ => L2.passAt tkX σ) (pa_cons (pe_ix ix_seq (pv 1) pe_int (fun _ _ => rfl)) (pa_cons (pe_ix ix_seq (pv 1) pe_int (fun _ _ => rfl)) pa_nil))))) pss_nil)
      (pss_cons (ps_if (pt_cmpR (op_eqG hr.units) (pe_callB call_lenG (by rfl) (m_len T) boot_len (pa_cons (pv 1) pa_nil)) pe_int (nomark _)) (pss_one (ps_ret (pe_cm (pv 0) (cl_Desk T) (mt_Desk_run T) F_Desk_run (hr.mono l_Desk_run) (fun σ => L2.passAt tkX σ) (pa_cons (pe_ix ix_seq (pv 1) pe_int (fun _ _ => rfl)) (pa_cons (pe_ix ix_seq (pv 1) pe_int (fun _ _ => rfl)) (pa_cons (pe_ix ix_seq (pv 1) pe_int (fun _ _ => rfl)) pa_nil)))))) pss_nil)
      (pss_cons (ps_if (pt_cmpR (op_eqG hr.units) (pe_callB call_lenG (by rfl) (m_len T) boot_len (pa_cons (pv 1) pa_nil)) pe_int (nomark _)) (pss_one (ps_ret (pe_cm (pv 0) (cl_Desk T) (mt_Desk_run T) F_Desk_run (hr.mono l_Desk_run) (fun σ => L2.passAt tkX σ) (pa_cons (pe_ix ix_seq (pv 1) pe_int (fun _ _ => rfl)) (pa_cons (pe_ix ix_seq (pv 1) pe_int (fun _ _ => rfl)) (pa_cons (pe_ix ix_seq (pv 1) pe_int (fun _ _ => rfl)) (pa_cons (pe_ix ix_seq (pv 1) pe_int (fun _ _ => rfl)) (pa_cons (pe_ix ix_seq (pv 1) pe_int (fun _ _ => rfl)) (pa_cons (pe_ix ix_seq (pv 1) pe_int (fun _ _ => rfl)) (pa_cons (pe_ix ix_seq (pv 1) pe_int (fun _ _ => rfl)) (pa_cons (pe_ix ix_seq (pv 1) pe_int (fun _ _ => rfl)) (pa_cons (pe_ix ix_seq (pv 1) pe_int (fun _ _ => rfl)) pa_nil)))))))))))) pss_nil)
      (pss_one (ps_ret (pe_cm (pv 0) (cl_Desk T) (mt_Desk_run T) F_Desk_run (hr.mono l_Desk_run) (fun σ => L2.passAt tkX σ) (pa_cons (pe_ix ix_seq (pv 1) pe_int (fun _ _ => rfl)) (pa_cons (pe_ix ix_seq (pv 1) pe_int (fun _ _ => rfl)) (pa_cons (pe_ix ix_seq (pv 1) pe_int (fun _ _ => rfl)) (pa_cons (pe_ix ix_seq (pv 1) pe_int (fun _ _ => rfl)) pa_nil)))))))))))))
def t__law_edit_told (K : PySem.W.Frag) (sp_Desk_put : Sp) (sp_Desk_drop : Sp) (sp_Desk_rename : Sp) (E : XK) : TS :=
  (tSeq (tIfS (tTest (tOp (rEqG K) (tOp (rIx K) (tVar 1) (tC (.int 0))) (tC (.str (PySem.Str.ofString "put"))))) (tRet (tMethA (He.ga K "Desk") "put" sp_Desk_put (fun _ => E) (tVar 0) (tCons (tOp (rIx K) (tVar 1) (tC (.int 1))) (tCons (tOp (rIx K) (tVar 1) (tC (.int 2))) (tCons (tOp (rIx K) (tVar 1) (tC (.int 3))) tNil))))) tNext)
    (tSeq (tIfS (tTest (tOp (rEqG K) (tOp (rIx K) (tVar 1) (tC (.int 0))) (tC (.str (PySem.Str.ofString "drop"))))) (tRet (tMethA (He.ga K "Desk") "drop" sp_Desk_drop (fun _ => E) (tVar 0) (tCons (tOp (rIx K) (tVar 1) (tC (.int 1))) tNil))) tNext)
    (tRet (tMethA (He.ga K "Desk") "rename" sp_Desk_rename (fun _ => E) (tVar 0) (tCons (tOp (rIx K) (tVar 1) (tC (.int 1))) (tCons (tOp (rIx K) (tVar 1) (tC (.int 2))) tNil))))))
theorem b__law_edit_told {P : Program} {w : World} {K : PySem.W.Frag} {mg : Str → Option Value} {base : Heap} {k k_Desk_put k_Desk_drop k_Desk_rename : Nat} {sp_Desk_put sp_Desk_drop sp_Desk_rename : Sp} {fa : Addr} {cdv : Value} {A : Around} {outer : List Env} {s0 : Shared} {H0 : Hp} {E : XK} (T : TT K mg) (hr : Room k (A.deeper (envOfC q__law_edit_told (defScope s__law_edit_told) s0.heap.objs.size fa cdv)))
    (F_Desk_put : FnR P w K mg base (L2N.CX P w) k_Desk_put (He.ma K (He.ga K "Desk") "put") sp_Desk_put) (l_Desk_put : k_Desk_put ≤ k)
    (F_Desk_drop : FnR P w K mg base (L2N.CX P w) k_Desk_drop (He.ma K (He.ga K "Desk") "drop") sp_Desk_drop) (l_Desk_drop : k_Desk_drop ≤ k)
    (F_Desk_rename : FnR P w K mg base (L2N.CX P w) k_Desk_rename (He.ma K (He.ga K "Desk") "rename") sp_Desk_rename) (l_Desk_rename : k_Desk_rename ≤ k) :
    PSs (cxOf (L2N.CX P w) P w K mg base N__law_edit_told q__law_edit_told (defScope s__law_edit_told) fa cdv A outer s0 H0 E) (defBody s__law_edit_told) (t__law_edit_told K sp_Desk_put sp_Desk_drop sp_Desk_rename E) := by
  have tkN : L2N.Takes (cxOf (L2N.CX P w) P w K mg base N__law_edit_told q__law_edit_told (defScope s__law_edit_told) fa cdv A outer s0 H0 E) (fun cls d _ H => E cls d H) := L2N.takes_of rfl rfl rfl rfl
  exact ((pss_cons (ps_if (pt_cmpR (op_eqG hr.units) (pe_ix ix_seq (pv 1) pe_int (fun _ _ => rfl)) pe_str (nomark _)) (pss_one (ps_ret (pe_cm (pv 0) (cl_Desk T) (mt_Desk_put T) F_Desk_put (hr.mono l_Desk_put) (fun σ => L2N.passAt tkN σ) (pa_cons (pe_ix ix_seq (pv 1) pe_int (fun _ _ => rfl)) (pa_cons (pe_ix ix_seq (pv 1) pe_int (fun _ _ => rfl)) (pa_cons (pe_ix ix_seq (pv 1) pe_int (fun _ _ => rfl)) pa_nil)))))) pss_nil)
      (pss_cons (ps_if (pt_cmpR (op_eqG hr.units) (pe_ix ix_seq (pv 1) pe_int (fun _ _ => rfl)) pe_str (nomark _)) (pss_one (ps_ret (pe_cm (pv 0) (cl_Desk T) (mt_Desk_drop T) F_Desk_drop (hr.mono l_Desk_drop) (fun σ => L2N.passAt tkN σ) (pa_cons (pe_ix ix_seq (pv 1) pe_int (fun _ _ => rfl)) pa_nil)))) pss_nil)
      (pss_one (ps_ret (pe_cm (pv 0) (cl_Desk T) (mt_Desk_rename T) F_Desk_rename (hr.mono l_Desk_rename) (fun σ => L2N.passAt tkN σ) (pa_cons (pe_ix ix_seq (pv 1) pe_int (fun _ _ => rfl)) (pa_cons (pe_ix ix_seq (pv 1) pe_int (fun _ _ => rfl)) pa_nil))))))))
def t__law_stands (K : PySem.W.Frag) (sp__law_same : Sp) (sp_Desk_names : Sp) (sp_Desk_limit : Sp) (sp_Desk_undone : Sp) (sp_Desk_steps : Sp) (sp_Desk_term_of : Sp) (sp_Desk_kind_of : Sp) : TS :=
  (tSeq (tAsg (tOp (rIx K) (tVar 1) (tC (.int 0))) (gName 2))
    (tSeq (tIfS (tNot (tB (tCallR sp__law_same (fun _ => E0) (tCons (tProp (He.ga K "Desk") sp_Desk_names [] E0 (tVar 0)) (tCons (tThen (tCB (rSortedS K) (tCons (tCB (rListG K) (tCons (tVar 2) tNil)) tNil)) (kTup K)) tNil))))) (tRet (tC (.bl false))) tNext)
    (tSeq (tIfS (tNot (tB (tCallR sp__law_same (fun _ => E0) (tCons (tTup (tCons (tProp (He.ga K "Desk") sp_Desk_steps [] E0 (tVar 0)) (tCons (tProp (He.ga K "Desk") sp_Desk_undone [] E0 (tVar 0)) (tCons (tProp (He.ga K "Desk") sp_Desk_limit [] E0 (tVar 0)) tNil)))) (tCons (tTup (tCons (tCB (rLenG K) (tCons (tOp (rIx K) (tVar 1) (tC (.int 1))) tNil)) (tCons (tCB (rLenG K) (tCons (tOp (rIx K) (tVar 1) (tC (.int 2))) tNil)) (tCons (tOp (rIx K) (tVar 1) (tC (.int 3))) tNil)))) tNil))))) (tRet (tC (.bl false))) tNext)
    (tRet (tCB (rAll K) (tCons (tLockE (tLc (iKeys (tVar 2)) (gName 3) tYes (tCallR sp__law_same (fun _ => E0) (tCons (tTup (tCons (tMethA (He.ga K "Desk") "kind_of" sp_Desk_kind_of (fun _ => E0) (tVar 0) (tCons (tVar 3) tNil)) (tCons (tMethA (He.ga K "Desk") "term_of" sp_Desk_term_of (fun _ => E0) (tVar 0) (tCons (tVar 3) tNil)) tNil))) (tCons (tDGet (tVar 2) (tVar 3)) tNil))) [3])) tNil))))))
theorem b__law_stands {P : Program} {w : World} {K : PySem.W.Frag} {mg : Str → Option Value} {base : Heap} {k k__law_same k_Desk_names k_Desk_limit k_Desk_undone k_Desk_steps k_Desk_term_of k_Desk_kind_of : Nat} {fd_Desk_names fd_Desk_limit fd_Desk_undone fd_Desk_steps : FuncData} {sp__law_same sp_Desk_names sp_Desk_limit sp_Desk_undone sp_Desk_steps sp_Desk_term_of sp_Desk_kind_of : Sp} {fa : Addr} {cdv : Value} {A : Around} {outer : List Env} {s0 : Shared} {H0 : Hp} {E : XK} (T : TT K mg) (hr : Room k (A.deeper (envOfC q__law_stands (defScope s__law_stands) s0.heap.objs.size fa cdv)))
    (F__law_same : FnR P w K mg base CX0 k__law_same (He.ga K "_law_same") sp__law_same) (l__law_same : k__law_same ≤ k)
    (FO_Desk_names : FnOk P w K mg base CX0 k_Desk_names (propB K "Desk" "names" 0) fd_Desk_names ["self"] sp_Desk_names) (B_Desk_names : Binds K fd_Desk_names ["self"] []) (l_Desk_names : k_Desk_names + 1 ≤ k)
    (FO_Desk_limit : FnOk P w K mg base CX0 k_Desk_limit (propB K "Desk" "limit" 0) fd_Desk_limit ["self"] sp_Desk_limit) (B_Desk_limit : Binds K fd_Desk_limit ["self"] []) (l_Desk_limit : k_Desk_limit + 1 ≤ k)
    (FO_Desk_undone : FnOk P w K mg base CX0 k_Desk_undone (propB K "Desk" "undone" 0) fd_Desk_undone ["self"] sp_Desk_undone) (B_Desk_undone : Binds K fd_Desk_undone ["self"] []) (l_Desk_undone : k_Desk_undone + 1 ≤ k)
    (FO_Desk_steps : FnOk P w K mg base CX0 k_Desk_steps (propB K "Desk" "steps" 0) fd_Desk_steps ["self"] sp_Desk_steps) (B_Desk_steps : Binds K fd_Desk_steps ["self"] []) (l_Desk_steps : k_Desk_steps + 1 ≤ k)
    (F_Desk_term_of : FnR P w K mg base (L2N.CX P w) k_Desk_term_of (He.ma K (He.ga K "Desk") "term_of") sp_Desk_term_of) (l_Desk_term_of : k_Desk_term_of ≤ k)
    (F_Desk_kind_of : FnR P w K mg base (L2N.CX P w) k_Desk_kind_of (He.ma K (He.ga K "Desk") "kind_of") sp_Desk_kind_of) (l_Desk_kind_of : k_Desk_kind_of ≤ k) :
    PSs (cxOf CX0 P w K mg base N__law_stands q__law_stands (defScope s__law_stands) fa cdv A outer s0 H0 E).nox (defBody s__law_stands) (t__law_stands K sp__law_same sp_Desk_names sp_Desk_limit sp_Desk_undone sp_Desk_steps sp_Desk_term_of sp_Desk_kind_of) := by
  exact ((pss_cons (ps_set (i := 2) sc__law_stands.nd rfl (by first | exact Or.inl rfl | exact Or.inr rfl) (pe_ix ix_seq (pv 1) pe_int (fun _ _ => rfl)))
      (pss_cons (ps_if (pt_not (pt_val (pe_cf F__law_same (hr.mono l__law_same) (kp__law_same T) (g__law_same T) at0 (pa_cons (pe_prop (pv 0) (cl_Desk T) (pr_Desk_names T) FO_Desk_names (hr.mono l_Desk_names) B_Desk_names .nil pass0 rfl) (pa_cons (pe_tupleOf rfl (m_tuple T) (pe_callB cr_sortedS (by rfl) (m_sorted T) (by decide +kernel) (pa_cons (pe_callTy (call_listG rfl) (by rfl) (m_list T) (by decide +kernel) (pa_cons (pv 2) pa_nil)) pa_nil))) pa_nil))))) (pss_one (ps_ret pe_bl)) pss_nil)
      (pss_cons (ps_if (pt_not (pt_val (pe_cf F__law_same (hr.mono l__law_same) (kp__law_same T) (g__law_same T) at0 (pa_cons (pe_tup (pa_cons (pe_prop (pv 0) (cl_Desk T) (pr_Desk_steps T) FO_Desk_steps (hr.mono l_Desk_steps) B_Desk_steps .nil pass0 rfl) (pa_cons (pe_prop (pv 0) (cl_Desk T) (pr_Desk_undone T) FO_Desk_undone (hr.mono l_Desk_undone) B_Desk_undone .nil pass0 rfl) (pa_cons (pe_prop (pv 0) (cl_Desk T) (pr_Desk_limit T) FO_Desk_limit (hr.mono l_Desk_limit) B_Desk_limit .nil pass0 rfl) pa_nil)))) (pa_cons (pe_tup (pa_cons (pe_callB call_lenG (by rfl) (m_len T) boot_len (pa_cons (pe_ix ix_seq (pv 1) pe_int (fun _ _ => rfl)) pa_nil)) (pa_cons (pe_callB call_lenG (by rfl) (m_len T) boot_len (pa_cons (pe_ix ix_seq (pv 1) pe_int (fun _ _ => rfl)) pa_nil)) (pa_cons (pe_ix ix_seq (pv 1) pe_int (fun _ _ => rfl)) pa_nil)))) pa_nil))))) (pss_one (ps_ret pe_bl)) pss_nil)
      (pss_one (ps_ret (pe_callB (cr_all rfl) (by rfl) (m_all T) (by decide +kernel) (pa_cons (pe_lock (pe_lc (own := [("name", 3)]) (g := gName 3) (tt := tYes) rfl sc__law_stands.nd (pi_keys (pv 2)) (blkOk_by (own := [("name", 3)]) (N := N__law_stands) (sc := defScope s__law_stands) (by decide +kernel)) (fun _ _ _ _ _ => pg_name (i := 3) sc__law_stands.nd rfl (Or.inl rfl)) (fun _ _ _ _ _ => pts_nil) (fun _ _ _ _ _ => (pe_cf F__law_same (hr.mono l__law_same) (kp__law_same T) (g__law_same T) at0 (pa_cons (pe_tup (pa_cons (pe_cm (pv 0) (cl_Desk T) (mt_Desk_kind_of T) F_Desk_kind_of (hr.mono l_Desk_kind_of) (at_any passN) (pa_cons (pv 3) pa_nil)) (pa_cons (pe_cm (pv 0) (cl_Desk T) (mt_Desk_term_of T) F_Desk_term_of (hr.mono l_Desk_term_of) (at_any passN) (pa_cons (pv 3) pa_nil)) pa_nil))) (pa_cons (pe_dget (hu_of hr) (pv 2) (pv 3) (fun _ _ => rfl)) pa_nil)))))) pa_nil))))))))
def t__law_walked (K : PySem.W.Frag) (sp__law_due : Sp) (sp__law_same : Sp) (sp__law_told : Sp) (sp__law_stands : Sp) : TS :=
  (tSeq (tFor (iList K (tVar 2)) (gName 3) (tSeq (tAsg (tCallR sp__law_due (fun _ => E0) (tCons (tVar 1) (tCons (tVar 3) tNil))) (gName 4))
    (tIfS (tOr (tNot (tB (tCallR sp__law_same (fun _ => E0) (tCons (tCallR sp__law_told (fun _ => E0) (tCons (tVar 0) (tCons (tVar 3) tNil))) (tCons (tVar 4) tNil))))) (tNot (tB (tCallR sp__law_stands (fun _ => E0) (tCons (tVar 0) (tCons (tVar 1) tNil)))))) (tRet (tC (.bl false))) tNext)))
    (tRet (tC (.bl true))))
theorem b__law_walked {P : Program} {w : World} {K : PySem.W.Frag} {mg : Str → Option Value} {base : Heap} {k k__law_due k__law_same k__law_told k__law_stands : Nat} {sp__law_due sp__law_same sp__law_told sp__law_stands : Sp} {fa : Addr} {cdv : Value} {A : Around} {outer : List Env} {s0 : Shared} {H0 : Hp} {E : XK} (T : TT K mg) (hr : Room k (A.deeper (envOfC q__law_walked (defScope s__law_walked) s0.heap.objs.size fa cdv)))
    (F__law_due : FnR P w K mg base CX0 k__law_due (He.ga K "_law_due") sp__law_due) (l__law_due : k__law_due ≤ k)
    (F__law_same : FnR P w K mg base CX0 k__law_same (He.ga K "_law_same") sp__law_same) (l__law_same : k__law_same ≤ k)
    (F__law_told : FnR P w K mg base CX0 k__law_told (He.ga K "_law_told") sp__law_told) (l__law_told : k__law_told ≤ k)
    (F__law_stands : FnR P w K mg base CX0 k__law_stands (He.ga K "_law_stands") sp__law_stands) (l__law_stands : k__law_stands ≤ k) :
    PSs (cxOf CX0 P w K mg base N__law_walked q__law_walked (defScope s__law_walked) fa cdv A outer s0 H0 E).nox (defBody s__law_walked) (t__law_walked K sp__law_due sp__law_same sp__law_told sp__law_stands) := by
  exact ((pss_cons (ps_for PassesOwn.never rfl (pi_list (pv 2)) (pg_name (i := 3) sc__law_walked.nd rfl (by first | exact Or.inl rfl | exact Or.inr rfl)) (pss_cons (ps_set (i := 4) sc__law_walked.nd rfl (by first | exact Or.inl rfl | exact Or.inr rfl) (pe_cf F__law_due (hr.mono l__law_due) (kp__law_due T) (g__law_due T) at0 (pa_cons (pv 1) (pa_cons (pv 3) pa_nil))))
      (pss_one (ps_if (PW.pt (pw_or (pt_not (pt_val (pe_cf F__law_same (hr.mono l__law_same) (kp__law_same T) (g__law_same T) at0 (pa_cons (pe_cf F__law_told (hr.mono l__law_told) (kp__law_told T) (g__law_told T) at0 (pa_cons (pv 0) (pa_cons (pv 3) pa_nil))) (pa_cons (pv 4) pa_nil))))) (pw_or1 (pt_not (pt_val (pe_cf F__law_stands (hr.mono l__law_stands) (kp__law_stands T) (g__law_stands T) at0 (pa_cons (pv 0) (pa_cons (pv 1) pa_nil)))))))) (pss_one (ps_ret pe_bl)) pss_nil))))
      (pss_one (ps_ret pe_bl))))
def t__law_nine (K : PySem.W.Frag) (sp__law_pick : Sp) (sp__law_small_term : Sp) (sp__law_edit : Sp) : TS :=
  (tSeq (tAsg (tOp (rEqG K) (tCallR sp__law_pick (fun _ => E0) (tCons (tVar 0) (tCons (tC (.int 2)) tNil))) (tC (.int 0))) (gName 3))
    (tSeq (tAsg (tLst tNil) (gName 4))
    (tSeq (tFor (iRng1 (tCons (tC (.int 9)) tNil)) (gName 5) (tIfS (tB (tVar 3)) (tSeq (tAsg (tOp (rIx K) (tLst (tCons (tC (.str (PySem.Str.ofString "aim"))) (tCons (tC (.str (PySem.Str.ofString "tree"))) tNil))) (tCallR sp__law_pick (fun _ => E0) (tCons (tVar 0) (tCons (tC (.int 2)) tNil)))) (gName 6))
    (tDrop (tBM K "list" rAppend (tVar 4) (tCons (tTup (tCons (tC (.str (PySem.Str.ofString "put"))) (tCons (tOp (rIx K) (tVar 1) (tOp rMod (tCB rIntG (tCons (tVar 5) tNil)) (tCB (rLenG K) (tCons (tVar 1) tNil)))) (tCons (tVar 6) (tCons (tCallR sp__law_small_term (fun _ => E0) (tCons (tVar 0) (tCons (tVar 1) tNil))) tNil))))) tNil)))) (tDrop (tBM K "list" rAppend (tVar 4) (tCons (tCallR sp__law_edit (fun _ => E0) (tCons (tVar 0) (tCons (tVar 1) (tCons (tVar 2) tNil)))) tNil)))))
    (tRet (tVar 4)))))
theorem b__law_nine {P : Program} {w : World} {K : PySem.W.Frag} {mg : Str → Option Value} {base : Heap} {k k__law_pick k__law_small_term k__law_edit : Nat} {sp__law_pick sp__law_small_term sp__law_edit : Sp} {fa : Addr} {cdv : Value} {A : Around} {outer : List Env} {s0 : Shared} {H0 : Hp} {E : XK} (T : TT K mg) (hr : Room k (A.deeper (envOfC q__law_nine (defScope s__law_nine) s0.heap.objs.size fa cdv)))
    (F__law_pick : FnR P w K mg base CX0 k__law_pick (He.ga K "_law_pick") sp__law_pick) (l__law_pick : k__law_pick ≤ k)
    (F__law_small_term : FnR P w K mg base CX0 k__law_small_term (He.ga K "_law_small_term") sp__law_small_term) (l__law_small_term : k__law_small_term ≤ k)
    (F__law_edit : FnR P w K mg base CX0 k__law_edit (He.ga K "_law_edit") sp__law_edit) (l__law_edit : k__law_edit ≤ k) :
    PSs (cxOf CX0 P w K mg base N__law_nine q__law_nine (defScope s__law_nine) fa cdv A outer s0 H0 E).nox (defBody s__law_nine) (t__law_nine K sp__law_pick sp__law_small_term sp__law_edit) := by
  exact ((pss_cons (ps_set (i := 3) sc__law_nine.nd rfl (by first | exact Or.inl rfl | exact Or.inr rfl) (pe_cmpR (op_eqG hr.units) (pe_cf F__law_pick (hr.mono l__law_pick) (kp__law_pick T) (g__law_pick T) at0 (pa_cons (pv 0) (pa_cons pe_int pa_nil))) pe_int (nomark _)))
      (pss_cons (ps_set (i := 4) sc__law_nine.nd rfl (by first | exact Or.inl rfl | exact Or.inr rfl) (pe_lst pa_nil))
      (pss_cons (ps_for PassesOwn.never rfl (pi_range1 rfl (m_range T) (pa_cons pe_int pa_nil)) (pg_name (i := 5) sc__law_nine.nd rfl (by first | exact Or.inl rfl | exact Or.inr rfl)) (pss_one (ps_if (pt_val (pv 3)) (pss_cons (ps_set (i := 6) sc__law_nine.nd rfl (by first | exact Or.inl rfl | exact Or.inr rfl) (pe_ix ix_seq (pe_lst (pa_cons pe_str (pa_cons pe_str pa_nil))) (pe_cf F__law_pick (hr.mono l__law_pick) (kp__law_pick T) (g__law_pick T) at0 (pa_cons (pv 0) (pa_cons pe_int pa_nil))) (fun _ _ => rfl)))
      (pss_one (ps_expr (pe_bm PySem.F.plainAttrs_list PySem.F.slot_list_append PySem.F.type_list_append mt_append (pv 4) (pa_cons (pe_tup (pa_cons pe_str (pa_cons (pe_ix ix_seq (pv 1) (pe_op op_modN (pe_callTy call_intG (by rfl) (m_int T) (by decide +kernel) (pa_cons (pv 5) pa_nil)) (pe_callB call_lenG (by rfl) (m_len T) boot_len (pa_cons (pv 1) pa_nil))) (fun _ _ => rfl)) (pa_cons (pv 6) (pa_cons (pe_cf F__law_small_term (hr.mono l__law_small_term) (kp__law_small_term T) (g__law_small_term T) at0 (pa_cons (pv 0) (pa_cons (pv 1) pa_nil))) pa_nil))))) pa_nil))))) (pss_one (ps_expr (pe_bm PySem.F.plainAttrs_list PySem.F.slot_list_append PySem.F.type_list_append mt_append (pv 4) (pa_cons (pe_cf F__law_edit (hr.mono l__law_edit) (kp__law_edit T) (g__law_edit T) at0 (pa_cons (pv 0) (pa_cons (pv 1) (pa_cons (pv 2) pa_nil)))) pa_nil)))))))
      (pss_one (ps_ret (pv 4)))))))
def t__law_hundred (K : PySem.W.Frag) (sp__law_pick : Sp) (sp_Desk___init__ : Sp) (sp__law_walked : Sp) : TS :=
  (tSeq (tAsg (tOp (rIx K) (tLst (tCons (tC (.int 100)) (tCons (tC (.int 99)) (tCons (tC (.int 100)) (tCons (tOp (rAddG K) (tC (.int 40)) (tCallR sp__law_pick (fun _ => E0) (tCons (tVar 0) (tCons (tC (.int 60)) tNil)))) tNil))))) (tCallR sp__law_pick (fun _ => E0) (tCons (tVar 0) (tCons (tC (.int 4)) tNil)))) (gName 2))
    (tSeq (tAsg (StX.tMakeR (He.ga K "Desk") sp_Desk___init__ E0 (tCons (tOp (rAddG K) (tC (.int 1)) (tCallR sp__law_pick (fun _ => E0) (tCons (tVar 0) (tCons (tC (.int 4)) tNil)))) tNil)) (gName 3))
    (tSeq (tAsg (tLst (tCons tDNewK (tCons (tLst tNil) (tCons (tLst tNil) (tCons (tC (.int 20)) tNil))))) (gName 4))
    (tSeq (tAsg (tLst (tCons (tTup (tCons (tC (.str (PySem.Str.ofString "keep"))) (tCons (tVar 2) tNil))) tNil)) (gName 5))
    (tSeq (tFor (iRng1 (tCons (tOp (rAddG K) (tC (.int 101)) (tCallR sp__law_pick (fun _ => E0) (tCons (tVar 0) (tCons (tC (.int 9)) tNil)))) tNil)) (gName 6) (tDrop (tBM K "list" rAppend (tVar 5) (tCons (tTup (tCons (tC (.str (PySem.Str.ofString "put"))) (tCons (tOp (rIx K) (tVar 1) (tCallR sp__law_pick (fun _ => E0) (tCons (tVar 0) (tCons (tCB (rLenG K) (tCons (tVar 1) tNil)) tNil)))) (tCons (tC (.str (PySem.Str.ofString "aim"))) (tCons (tVar 6) tNil))))) tNil))))
    (tSeq (tAsg (tOp (rAddG K) (tOp (rAddG K) (tVar 5) (tOp rMulG (tLst (tCons (tTup (tCons (tC (.str (PySem.Str.ofString "undo"))) tNil)) tNil)) (tOp (rAddG K) (tVar 2) (tC (.int 1))))) (tOp rMulG (tLst (tCons (tTup (tCons (tC (.str (PySem.Str.ofString "redo"))) tNil)) tNil)) (tOp (rAddG K) (tVar 2) (tC (.int 1))))) (gName 5))
    (tRet (tCallR sp__law_walked (fun _ => E0) (tCons (tVar 3) (tCons (tVar 4) (tCons (tVar 5) tNil)))))))))))
theorem b__law_hundred {P : Program} {w : World} {K : PySem.W.Frag} {mg : Str → Option Value} {base : Heap} {k k__law_pick k_Desk___init__ k__law_walked : Nat} {sp__law_pick sp_Desk___init__ sp__law_walked : Sp} {fa : Addr} {cdv : Value} {A : Around} {outer : List Env} {s0 : Shared} {H0 : Hp} {E : XK} (T : TT K mg) (hr : Room k (A.deeper (envOfC q__law_hundred (defScope s__law_hundred) s0.heap.objs.size fa cdv)))
    (F__law_pick : FnR P w K mg base CX0 k__law_pick (He.ga K "_law_pick") sp__law_pick) (l__law_pick : k__law_pick ≤ k)
    (F_Desk___init__ : FnR P w K mg base (L2N.CX P w) k_Desk___init__ (He.ma K (He.ga K "Desk") "__init__") sp_Desk___init__) (l_Desk___init__ : k_Desk___init__ + 1 ≤ k)
    (F__law_walked : FnR P w K mg base CX0 k__law_walked (He.ga K "_law_walked") sp__law_walked) (l__law_walked : k__law_walked ≤ k) :
    PSs (cxOf CX0 P w K mg base N__law_hundred q__law_hundred (defScope s__law_hundred) fa cdv A outer s0 H0 E).nox (defBody s__law_hundred) (t__law_hundred K sp__law_pick sp_Desk___init__ sp__law_walked) := by
  exact ((pss_cons (ps_set (i := 2) sc__law_hundred.nd rfl (by first | exact Or.inl rfl | exact Or.inr rfl) (pe_ix ix_seq (pe_lst (pa_cons pe_int (pa_cons pe_int (pa_cons pe_int (pa_cons (pe_op op_addG pe_int (pe_cf F__law_pick (hr.mono l__law_pick) (kp__law_pick T) (g__law_pick T) at0 (pa_cons (pv 0) (pa_cons pe_int pa_nil)))) pa_nil))))) (pe_cf F__law_pick (hr.mono l__law_pick) (kp__law_pick T) (g__law_pick T) at0 (pa_cons (pv 0) (pa_cons pe_int pa_nil))) (fun _ _ => rfl)))
      (pss_cons (ps_set (i := 3) sc__law_hundred.nd rfl (by first | exact Or.inl rfl | exact Or.inr rfl) (StX.pe_makeR (M_Desk T) F_Desk___init__ (hr.mono l_Desk___init__) rfl (g_Desk T) passN (pa_cons (pe_op op_addG pe_int (pe_cf F__law_pick (hr.mono l__law_pick) (kp__law_pick T) (g__law_pick T) at0 (pa_cons (pv 0) (pa_cons pe_int pa_nil)))) pa_nil)))
      (pss_cons (ps_set (i := 4) sc__law_hundred.nd rfl (by first | exact Or.inl rfl | exact Or.inr rfl) (pe_lst (pa_cons pe_dnewK (pa_cons (pe_lst pa_nil) (pa_cons (pe_lst pa_nil) (pa_cons pe_int pa_nil))))))
      (pss_cons (ps_set (i := 5) sc__law_hundred.nd rfl (by first | exact Or.inl rfl | exact Or.inr rfl) (pe_lst (pa_cons (pe_tup (pa_cons pe_str (pa_cons (pv 2) pa_nil))) pa_nil)))
      (pss_cons (ps_for PassesOwn.never rfl (pi_range1 rfl (m_range T) (pa_cons (pe_op op_addG pe_int (pe_cf F__law_pick (hr.mono l__law_pick) (kp__law_pick T) (g__law_pick T) at0 (pa_cons (pv 0) (pa_cons pe_int pa_nil)))) pa_nil)) (pg_name (i := 6) sc__law_hundred.nd rfl (by first | exact Or.inl rfl | exact Or.inr rfl)) (pss_one (ps_expr (pe_bm PySem.F.plainAttrs_list PySem.F.slot_list_append PySem.F.type_list_append mt_append (pv 5) (pa_cons (pe_tup (pa_cons pe_str (pa_cons (pe_ix ix_seq (pv 1) (pe_cf F__law_pick (hr.mono l__law_pick) (kp__law_pick T) (g__law_pick T) at0 (pa_cons (pv 0) (pa_cons (pe_callB call_lenG (by rfl) (m_len T) boot_len (pa_cons (pv 1) pa_nil)) pa_nil))) (fun _ _ => rfl)) (pa_cons pe_str (pa_cons (pv 6) pa_nil))))) pa_nil)))))
      (pss_cons (ps_set (i := 5) sc__law_hundred.nd rfl (by first | exact Or.inl rfl | exact Or.inr rfl) (pe_op op_addG (pe_op op_addG (pv 5) (pe_op op_mulG (pe_lst (pa_cons (pe_tup (pa_cons pe_str pa_nil)) pa_nil)) (pe_op op_addG (pv 2) pe_int))) (pe_op op_mulG (pe_lst (pa_cons (pe_tup (pa_cons pe_str pa_nil)) pa_nil)) (pe_op op_addG (pv 2) pe_int))))
      (pss_one (ps_ret (pe_cf F__law_walked (hr.mono l__law_walked) (kp__law_walked T) (g__law_walked T) at0 (pa_cons (pv 3) (pa_cons (pv 4) (pa_cons (pv 5) pa_nil)))))))))))))
def t_law (K : PySem.W.Frag) (sp__law_start : Sp) (sp_Desk___init__ : Sp) (sp__law_pick : Sp) (sp__law_pool : Sp) (sp__law_stands : Sp) (sp__law_walked : Sp) (sp__law_opening : Sp) (sp__law_deeds : Sp) (sp__law_nine : Sp) (sp__law_hundred : Sp) : TS :=
  (tSeq (tAsg (tCallR sp__law_start (fun _ => E0) (tCons (tVar 0) tNil)) (gName 1))
    (tSeq (tAsg (StX.tMakeR (He.ga K "Desk") sp_Desk___init__ E0 (tCons (tOp (rAddG K) (tC (.int 1)) (tCallR sp__law_pick (fun _ => E0) (tCons (tVar 1) (tCons (tC (.int 4)) tNil)))) tNil)) (gName 2))
    (tSeq (tAsg (tCallR sp__law_pool (fun _ => E0) (tCons (tVar 1) tNil)) (gName 3))
    (tSeq (tAsg (tLst (tCons tDNewK (tCons (tLst tNil) (tCons (tLst tNil) (tCons (tC (.int 20)) tNil))))) (gName 4))
    (tSeq (tIfS (tOr (tNot (tB (tCallR sp__law_stands (fun _ => E0) (tCons (tVar 2) (tCons (tVar 4) tNil))))) (tNot (tB (tCallR sp__law_walked (fun _ => E0) (tCons (tVar 2) (tCons (tVar 4) (tCons (tCallR sp__law_opening (fun _ => E0) (tCons (tVar 1) (tCons (tVar 3) tNil))) tNil))))))) (tRet (tC (.bl false))) tNext)
    (tSeq (tFor (iRng1 (tCons (tOp (rAddG K) (tC (.int 4)) (tCallR sp__law_pick (fun _ => E0) (tCons (tVar 1) (tCons (tC (.int 14)) tNil)))) tNil)) (gName 5) (tIfS (tNot (tB (tCallR sp__law_walked (fun _ => E0) (tCons (tVar 2) (tCons (tVar 4) (tCons (tCallR sp__law_deeds (fun _ => E0) (tCons (tVar 1) (tCons (tVar 3) (tCons (tCB (rSortedS K) (tCons (tCB (rListG K) (tCons (tOp (rIx K) (tVar 4) (tC (.int 0))) tNil)) tNil)) tNil)))) tNil)))))) (tRet (tC (.bl false))) tNext))
    (tSeq (tIfS (tNot (tB (tCallR sp__law_walked (fun _ => E0) (tCons (tVar 2) (tCons (tVar 4) (tCons (tOp rMulG (tLst (tCons (tTup (tCons (tC (.str (PySem.Str.ofString "undo"))) tNil)) tNil)) (tOp (rAddG K) (tCB (rLenG K) (tCons (tOp (rIx K) (tVar 4) (tC (.int 1))) tNil)) (tC (.int 1)))) tNil)))))) (tRet (tC (.bl false))) tNext)
    (tSeq (tIfS (tNot (tB (tCallR sp__law_walked (fun _ => E0) (tCons (tVar 2) (tCons (tVar 4) (tCons (tOp rMulG (tLst (tCons (tTup (tCons (tC (.str (PySem.Str.ofString "redo"))) tNil)) tNil)) (tOp (rAddG K) (tCB (rLenG K) (tCons (tOp (rIx K) (tVar 4) (tC (.int 2))) tNil)) (tC (.int 1)))) tNil)))))) (tRet (tC (.bl false))) tNext)
    (tSeq (tIfS (tNot (tB (tCallR sp__law_walked (fun _ => E0) (tCons (tVar 2) (tCons (tVar 4) (tCons (tLst (tCons (tTup (tCons (tC (.str (PySem.Str.ofString "run"))) (tCons (tCallR sp__law_nine (fun _ => E0) (tCons (tVar 1) (tCons (tVar 3) (tCons (tCB (rSortedS K) (tCons (tCB (rListG K) (tCons (tOp (rIx K) (tVar 4) (tC (.int 0))) tNil)) tNil)) tNil)))) tNil))) tNil)) tNil)))))) (tRet (tC (.bl false))) tNext)
    (tSeq (tIfS (tNot (tB (tCallR sp__law_walked (fun _ => E0) (tCons (tVar 2) (tCons (tVar 4) (tCons (tLst (tCons (tTup (tCons (tC (.str (PySem.Str.ofString "keep"))) (tCons (tOp rSub (tUn (rU fun i => .int (-i)) (tC (.int 1))) (tCallR sp__law_pick (fun _ => E0) (tCons (tVar 1) (tCons (tC (.int 99)) tNil)))) tNil))) tNil)) tNil)))))) (tRet (tC (.bl false))) tNext)
    (tRet (tOrV (tOp rGt (tCallR sp__law_pick (fun _ => E0) (tCons (tVar 1) (tCons (tC (.int 8)) tNil))) (tC (.int 0))) (tCallR sp__law_hundred (fun _ => E0) (tCons (tVar 1) (tCons (L2.tSl (rSlG K) (tVar 3) tNoPart (tPart (tC (.int 2)))) tNil)))))))))))))))
theorem b_law {P : Program} {w : World} {K : PySem.W.Frag} {mg : Str → Option Value} {base : Heap} {k k__law_start k_Desk___init__ k__law_pick k__law_pool k__law_stands k__law_walked k__law_opening k__law_deeds k__law_nine k__law_hundred : Nat} {sp__law_start sp_Desk___init__ sp__law_pick sp__law_pool sp__law_stands sp__law_walked sp__law_opening sp__law_deeds sp__law_nine sp__law_hundred : Sp} {fa : Addr} {cdv : Value} {A : Around} {outer : List Env} {s0 : Shared} {H0 : Hp} {E : XK} (T : TT K mg) (hr : Room k (A.deeper (envOfC q_law (defScope s_law) s0.heap.objs.size fa cdv)))
    (F__law_start : FnR P w K mg base CX0 k__law_start (He.ga K "_law_start") sp__law_start) (l__law_start : k__law_start ≤ k)
    (F_Desk___init__ : FnR P w K mg base (L2N.CX P w) k_Desk___init__ (He.ma K (He.ga K "Desk") "__init__") sp_Desk___init__) (l_Desk___init__ : k_Desk___init__ + 1 ≤ k)
    (F__law_pick : FnR P w K mg base CX0 k__law_pick (He.ga K "_law_pick") sp__law_pick) (l__law_pick : k__law_pick ≤ k)
    (F__law_pool : FnR P w K mg base CX0 k__law_pool (He.ga K "_law_pool") sp__law_pool) (l__law_pool : k__law_pool ≤ k)
    (F__law_stands : FnR P w K mg base CX0 k__law_stands (He.ga K "_law_stands") sp__law_stands) (l__law_stands : k__law_stands ≤ k)
    (F__law_walked : FnR P w K mg base CX0 k__law_walked (He.ga K "_law_walked") sp__law_walked) (l__law_walked : k__law_walked ≤ k)
    (F__law_opening : FnR P w K mg base CX0 k__law_opening (He.ga K "_law_opening") sp__law_opening) (l__law_opening : k__law_opening ≤ k)
    (F__law_deeds : FnR P w K mg base CX0 k__law_deeds (He.ga K "_law_deeds") sp__law_deeds) (l__law_deeds : k__law_deeds ≤ k)
    (F__law_nine : FnR P w K mg base CX0 k__law_nine (He.ga K "_law_nine") sp__law_nine) (l__law_nine : k__law_nine ≤ k)
    (F__law_hundred : FnR P w K mg base CX0 k__law_hundred (He.ga K "_law_hundred") sp__law_hundred) (l__law_hundred : k__law_hundred ≤ k) :
    PSs (cxOf CX0 P w K mg base N_law q_law (defScope s_law) fa cdv A outer s0 H0 E).nox (defBody s_law) (t_law K sp__law_start sp_Desk___init__ sp__law_pick sp__law_pool sp__law_stands sp__law_walked sp__law_opening sp__law_deeds sp__law_nine sp__law_hundred) := by
  exact ((pss_cons (ps_set (i := 1) sc_law.nd rfl (by first | exact Or.inl rfl | exact Or.inr rfl) (pe_cf F__law_start (hr.mono l__law_start) (kp__law_start T) (g__law_start T) at0 (pa_cons (pv 0) pa_nil)))
      (pss_cons (ps_set (i := 2) sc_law.nd rfl (by first | exact Or.inl rfl | exact Or.inr rfl) (StX.pe_makeR (M_Desk T) F_Desk___init__ (hr.mono l_Desk___init__) rfl (g_Desk T) passN (pa_cons (pe_op op_addG pe_int (pe_cf F__law_pick (hr.mono l__law_pick) (kp__law_pick T) (g__law_pick T) at0 (pa_cons (pv 1) (pa_cons pe_int pa_nil)))) pa_nil)))
      (pss_cons (ps_set (i := 3) sc_law.nd rfl (by first | exact Or.inl rfl | exact Or.inr rfl) (pe_cf F__law_pool (hr.mono l__law_pool) (kp__law_pool T) (g__law_pool T) at0 (pa_cons (pv 1) pa_nil)))
      (pss_cons (ps_set (i := 4) sc_law.nd rfl (by first | exact Or.inl rfl | exact Or.inr rfl) (pe_lst (pa_cons pe_dnewK (pa_cons (pe_lst pa_nil) (pa_cons (pe_lst pa_nil) (pa_cons pe_int pa_nil))))))
      (pss_cons (ps_if (PW.pt (pw_or (pt_not (pt_val (pe_cf F__law_stands (hr.mono l__law_stands) (kp__law_stands T) (g__law_stands T) at0 (pa_cons (pv 2) (pa_cons (pv 4) pa_nil))))) (pw_or1 (pt_not (pt_val (pe_cf F__law_walked (hr.mono l__law_walked) (kp__law_walked T) (g__law_walked T) at0 (pa_cons (pv 2) (pa_cons (pv 4) (pa_cons (pe_cf F__law_opening (hr.mono l__law_opening) (kp__law_opening T) (g__law_opening T) at0 (pa_cons (pv 1) (pa_cons (pv 3) pa_nil))) pa_nil))))))))) (pss_one (ps_ret pe_bl)) pss_nil)
      (pss_cons (ps_for PassesOwn.never rfl (pi_range1 rfl (m_range T) (pa_cons (pe_op op_addG pe_int (pe_cf F__law_pick (hr.mono l__law_pick) (kp__law_pick T) (g__law_pick T) at0 (pa_cons (pv 1) (pa_cons pe_int pa_nil)))) pa_nil)) (pg_name (i := 5) sc_law.nd rfl (by first | exact Or.inl rfl | exact Or.inr rfl)) (pss_one (ps_if (pt_not (pt_val (pe_cf F__law_walked (hr.mono l__law_walked) (kp__law_walked T) (g__law_walked T) at0 (pa_cons (pv 2) (pa_cons (pv 4) (pa_cons (pe_cf F__law_deeds (hr.mono l__law_deeds) (kp__law_deeds T) (g__law_deeds T) at0 (pa_cons (pv 1) (pa_cons (pv 3) (pa_cons (pe_callB cr_sortedS (by rfl) (m_sorted T) (by decide +kernel) (pa_cons (pe_callTy (call_listG rfl) (by rfl) (m_list T) (by decide +kernel) (pa_cons (pe_ix ix_seq (pv 4) pe_int (fun _ _ => rfl)) pa_nil)) pa_nil)) pa_nil)))) pa_nil)))))) (pss_one (ps_ret pe_bl)) pss_nil)))
      (pss_cons (ps_if (pt_not (pt_val (pe_cf F__law_walked (hr.mono l__law_walked) (kp__law_walked T) (g__law_walked T) at0 (pa_cons (pv 2) (pa_cons (pv 4) (pa_cons (pe_op op_mulG (pe_lst (pa_cons (pe_tup (pa_cons pe_str pa_nil)) pa_nil)) (pe_op op_addG (pe_callB call_lenG (by rfl) (m_len T) boot_len (pa_cons (pe_ix ix_seq (pv 4) pe_int (fun _ _ => rfl)) pa_nil)) pe_int)) pa_nil)))))) (pss_one (ps_ret pe_bl)) pss_nil)
      (pss_cons (ps_if (pt_not (pt_val (pe_cf F__law_walked (hr.mono l__law_walked) (kp__law_walked T) (g__law_walked T) at0 (pa_cons (pv 2) (pa_cons (pv 4) (pa_cons (pe_op op_mulG (pe_lst (pa_cons (pe_tup (pa_cons pe_str pa_nil)) pa_nil)) (pe_op op_addG (pe_callB call_lenG (by rfl) (m_len T) boot_len (pa_cons (pe_ix ix_seq (pv 4) pe_int (fun _ _ => rfl)) pa_nil)) pe_int)) pa_nil)))))) (pss_one (ps_ret pe_bl)) pss_nil)
      (pss_cons (ps_if (pt_not (pt_val (pe_cf F__law_walked (hr.mono l__law_walked) (kp__law_walked T) (g__law_walked T) at0 (pa_cons (pv 2) (pa_cons (pv 4) (pa_cons (pe_lst (pa_cons (pe_tup (pa_cons pe_str (pa_cons (pe_cf F__law_nine (hr.mono l__law_nine) (kp__law_nine T) (g__law_nine T) at0 (pa_cons (pv 1) (pa_cons (pv 3) (pa_cons (pe_callB cr_sortedS (by rfl) (m_sorted T) (by decide +kernel) (pa_cons (pe_callTy (call_listG rfl) (by rfl) (m_list T) (by decide +kernel) (pa_cons (pe_ix ix_seq (pv 4) pe_int (fun _ _ => rfl)) pa_nil)) pa_nil)) pa_nil)))) pa_nil))) pa_nil)) pa_nil)))))) (pss_one (ps_ret pe_bl)) pss_nil)
      (pss_cons (ps_if (pt_not (pt_val (pe_cf F__law_walked (hr.mono l__law_walked) (kp__law_walked T) (g__law_walked T) at0 (pa_cons (pv 2) (pa_cons (pv 4) (pa_cons (pe_lst (pa_cons (pe_tup (pa_cons pe_str (pa_cons (pe_op op_sub (pe_un un_neg pe_int) (pe_cf F__law_pick (hr.mono l__law_pick) (kp__law_pick T) (g__law_pick T) at0 (pa_cons (pv 1) (pa_cons pe_int pa_nil)))) pa_nil))) pa_nil)) pa_nil)))))) (pss_one (ps_ret pe_bl)) pss_nil)
      (pss_one (ps_ret (pe_or (pe_cmpR op_gt (pe_cf F__law_pick (hr.mono l__law_pick) (kp__law_pick T) (g__law_pick T) at0 (pa_cons (pv 1) (pa_cons pe_int pa_nil))) pe_int (nomark _)) (pe_one (pe_cf F__law_hundred (hr.mono l__law_hundred) (kp__law_hundred T) (g__law_hundred T) at0 (pa_cons (pv 1) (pa_cons (pe_slice sl_G (pv 3) po_none (po_some pe_int)) pa_nil))))))))))))))))))
end K9
namespace K9
open PySem PySem.Spec PyProof.Rows L2 HotX L2H
/-! raise X(..) from e in the suite of except C as e. -/
/-- the heap behind «from e»: the exception at a has the cause x1 -/
def caused (h : Heap) (a x1 : Addr) : Heap := (h.update a (Obj.mapFields (·.setIfInBounds 3 (.ref x1)))).update a (Obj.mapFields (·.setIfInBounds 4 (.bool true)))
theorem caused_at {h : Heap} {a x1 : Addr} {oe : Obj} {vs : Array Value} (ha : h.get? a = some oe) (hd : oe.data = .fields vs) :
    (caused h a x1).get? a = some ((oe.mapFields (·.setIfInBounds 3 (.ref x1))).mapFields (·.setIfInBounds 4 (.bool true))) ∧ ((oe.mapFields (·.setIfInBounds 3 (.ref x1))).mapFields (·.setIfInBounds 4 (.bool true))).data = .fields ((vs.setIfInBounds 3 (.ref x1)).setIfInBounds 4 (.bool true)) := by
  have d1 := Obj.data_mapFields hd (·.setIfInBounds 3 (.ref x1))
  have a1 := Heap.get?_update_self (Obj.mapFields (·.setIfInBounds 3 (.ref x1))) ha (Obj.isFreed_of_fields d1)
  have d2 := Obj.data_mapFields d1 (·.setIfInBounds 4 (.bool true))
  exact ⟨Heap.get?_update_self (Obj.mapFields (·.setIfInBounds 4 (.bool true))) a1 (Obj.isFreed_of_fields d2), d2⟩
theorem caused_other {h : Heap} {a b x1 : Addr} (hne : a ≠ b) : (caused h a x1).get? b = h.get? b := by
  unfold caused
  rw [Heap.get?_update_other _ _ hne, Heap.get?_update_other _ _ hne]
section
variable {prog : Program} {w : World} {A : Around}
theorem no_type {h : Heap} {a : Addr} {oe : Obj} {vs : Array Value} {s : Shared} {E : Value → Shared → Prop} {Q : Bool → Shared → Prop} (ha : s.heap.get? a = some oe) (hd : oe.data = .fields vs) (q : Q false s) : wpAny (model prog w) A (isType (.ref a)) Q E s := by
  simp only [isType, loadHead]
  refine wpAny_bind (wpAny_loadPart ha ?_)
  rw [hd]
  exact wpAny_pure q
theorem exc_from {a : Addr} {oe : Obj} {vs : Array Value} {cls : Value} {m : String} {s : Shared} {E : Value → Shared → Prop} {Q : Value → Shared → Prop} (ha : s.heap.get? a = some oe) (hc : oe.cls = cls) (hd : oe.data = .fields vs) (L1 : PySem.W.Looks (model prog w) s.heap (isSubtype cls (.type "BaseException")) true)
    (q : Q (.ref a) s) : wpAny (model prog w) A (excFromValue (.ref a) m) Q E s := by
  have LT : PySem.W.Looks (model prog w) s.heap (typeOf (.ref a)) cls := fun A Q E s k q => wpAny_typeOf_ref (k _ _ ha) (by rw [hc]; exact q)
  have LI : PySem.W.Looks (model prog w) s.heap (isInstance (.ref a) (.type "BaseException")) true := LT.andThen L1
  unfold excFromValue isExcClass
  refine wpAny_bind (wpAny_bind (no_type (h := s.heap) ha hd ?_))
  simp only [Bool.false_eq_true, if_false]
  refine wpAny_pure ?_
  simp only [Bool.false_eq_true, if_false]
  refine wpAny_bind (LI.here ?_)
  simp only [if_true]
  exact wpAny_pure q
theorem raise_caused {E : Value → Shared → Prop} {env : Env} {s : Shared} {x c : Sem Value} {Q : Flow → Shared → Prop} {x1 : Addr}
    (h : wpAny (model prog w) A x (fun v s₁ => ∃ a oe vs cls o1 vs1, v = .ref a ∧ s₁.heap.get? a = some oe ∧ oe.cls = cls ∧ oe.data = .fields vs ∧ vs[1]? = some .none ∧ 4 < vs.size ∧ x1 ≠ a ∧ HotAt A x1 s₁.heap ∧
      PySem.W.Looks (model prog w) s₁.heap (isSubtype cls (.type "BaseException")) true ∧ PySem.W.Looks (model prog w) (caused s₁.heap a x1) (typeOf cls) (.type "type") ∧
      s₁.heap.get? x1 = some o1 ∧ o1.data = .fields vs1 ∧ PySem.W.Looks (model prog w) s₁.heap (isSubtype o1.cls (.type "BaseException")) true ∧
      (∀ Q' : Value → Shared → Prop, Q' (.ref x1) s₁ → wpAny (model prog w) A c Q' E s₁) ∧
      E (.ref a) { s₁ with heap := (caused s₁.heap a x1).update a (Obj.mapFields (·.setIfInBounds 2 (.ref x1))) }) E s) :
    wpAny (model prog w) A (raiseStmt env (some x) (some c)) Q E s := by
  unfold raiseStmt
  dsimp only
  refine wpAny_bind (wpAny_mono h (fun v s₁ h₁ => ?_) fun _ _ x => x)
  obtain ⟨a, oe, vs, cls, o1, vs1, rfl, ha, hcls, hd, h1, hi, hne, hot, L1, L3, g1, d1, L5, hcz, hE⟩ := h₁
  have hd3 := Obj.data_mapFields hd (·.setIfInBounds 3 (.ref x1))
  have ha3 := Heap.get?_update_self (Obj.mapFields (·.setIfInBounds 3 (.ref x1))) ha (Obj.isFreed_of_fields hd3)
  obtain ⟨ha4, hd4⟩ := caused_at (x1 := x1) ha hd
  have s3 : 3 < vs.size := by omega
  have s4 : 4 < (vs.setIfInBounds 3 (Value.ref x1)).size := by rw [set_size]; exact hi
  have s2 : 2 < ((vs.setIfInBounds 3 (Value.ref x1)).setIfInBounds 4 (Value.bool true)).size := by rw [set_size, set_size]; omega
  have h14 : ((vs.setIfInBounds 3 (Value.ref x1)).setIfInBounds 4 (Value.bool true))[1]? = some Value.none := set_other (by decide) (set_other (by decide) h1)
  have hcls4 : ((oe.mapFields (·.setIfInBounds 3 (.ref x1))).mapFields (·.setIfInBounds 4 (.bool true))).cls = cls := by rw [Obj.cls_mapFields, Obj.cls_mapFields]; exact hcls
  have LT4 : PySem.W.Looks (model prog w) (caused s₁.heap a x1) (typeOf (.ref a)) cls := fun A Q E s k q => wpAny_typeOf_ref (k _ _ ha4) (by rw [hcls4]; exact q)
  have hot4 : HotAt A x1 (caused s₁.heap a x1) := by
    obtain ⟨q1, o, vs', q2, q3, q4⟩ := hot
    exact ⟨q1, o, vs', by rw [caused_other (Ne.symm hne)]; exact q2, q3, q4⟩
  have rest : wpAny (model prog w) A (do
      let b ← isType (.ref a)
      if b = true then do
        let e ← holding [.ref a] (raisedFor (.ref a) (.ref a))
        setFlight e none
        raiseNew e
      else do
        let e ← raisedInstance (.ref a)
        setFlight e none
        raiseNew e : Sem Flow) Q E { s₁ with heap := caused s₁.heap a x1 } := by
    refine wpAny_bind (no_type (h := caused s₁.heap a x1) ha4 hd4 ?_)
    simp only [Bool.false_eq_true, if_false]
    unfold raisedInstance
    refine wpAny_bind (wpAny_bind (LT4.here (wpAny_bind (L3.here ?_))))
    rw [if_pos (beq_self_eq_true _)]
    refine wpAny_pure ?_
    unfold setFlight
    refine wpAny_bind (wpAny_bind (wpAny_field ha4 hd4 h14 ?_))
    rw [if_neg (by decide)]
    exact wpAny_pure (raiseNew_hot hot4 hne ha4 hd4 s2 hE)
  refine wpAny_bind (wpAny_holding (hcz _ (wpAny_bind (wpAny_pure ?_))))
  dsimp only
  refine wpAny_bind (wpAny_holding (exc_from ha hcls hd L1 ?_))
  rw [if_neg (show ¬ ((Value.ref x1 == Value.none) = true) from by simp)]
  first
  | (refine wpAny_bind (wpAny_holding (exc_from g1 rfl d1 L5 (wpAny_bind (wpAny_setField ha hd s3 (wpAny_bind (wpAny_setField ha3 hd3 s4 ?_)))))); exact rest)
  | (refine wpAny_bind (wpAny_holding (exc_from g1 rfl d1 L5 (wpAny_bind (wpAny_bind (wpAny_setField ha hd s3 (wpAny_bind (wpAny_setField ha3 hd3 s4 ?_))))))); exact rest)
  | (refine wpAny_bind (wpAny_bind (wpAny_holding (exc_from g1 rfl d1 L5 (wpAny_bind (wpAny_setField ha hd s3 (wpAny_setField ha3 hd3 s4 ?_)))))); exact rest)
end
/-! try: .. except C as e: raise X(..) from e. -/
section
variable {X : Cx}
theorem ps_raiseF {W : WX} {e : Expr} {t : L2.St → Hp → XK → Prop} {a : Addr} {oe : Obj} {ccls : Value} {cd : Option Addr} {i : Nat} {n : Str} {np pos : Pos} (hh : X.A.handled = some (.ref a)) (hm : (a, oe) ∈ X.pn) (hz : L2N.Zn ccls cd oe) (hf : ∃ vs, oe.data = .fields vs)
    (tk : L2.Takes X W) (he : PMk5 X e t) (hN : X.N[i]? = some n) (hln : X.env.kindOf n = some .local) (hd : (n == ("__debug__" : Str)) = false := by decide) :
    PS X (.Raise (some e) (some (.Name n np)) pos) (fun _ σ H => Raises X ccls ∧ σ[i]? = some (some (.ref a)) ∧ t σ H fun cls d H' => W cls d σ H') := by
  refine ⟨fun pins s σ H D I h => ?_⟩
  obtain ⟨rc, hs, h⟩ := h
  obtain ⟨vc, hvc⟩ := hf
  show wpAny _ _ (do standAt pos; raiseStmt X.env (some (do let v ← eval e X.env; standAt pos; pure v)) (some (do let v ← eval (.Name n np) X.env; standAt pos; pure v))) _ _ _
  refine wpAny_bind (wpAny_standAt (raise_caused (x1 := a) (wpAny_bind (wpAny_mono (he pins s σ H _ I h) (fun u s1 hu => wpAny_bind (wpAny_standAt (wpAny_pure ?_))) fun _ _ x => x))))
  obtain ⟨⟨b, ob, vs, sI, H', cls, d, rfl, J, k, hne, ha, hz', hd', h1, na, os, ag, r, q⟩, h5⟩ := hu
  have hi : 4 < vs.size := h5 b ob vs rfl ha hd'
  have k4 : ∀ c u, sI.heap.get? c = some u → (caused s1.heap b a).get? c = some u := fun c u z => by
    have nbc : b ≠ c := fun y => by
      rw [← y, hne] at z
      cases z
    rw [caused_other nbc]
    exact k c u z
  obtain ⟨r1, _⟩ := r (model X.prog X.w) s1.heap (J.kIn.keeps k)
  obtain ⟨_, r2⟩ := r (model X.prog X.w) (caused s1.heap b a) (J.kIn.keeps k4)
  obtain ⟨r3, _⟩ := rc (model X.prog X.w) s1.heap (J.kIn.keeps k)
  have P1 := (J.pin (a, oe) (List.mem_append_left _ hm)).1
  have nab : a ≠ b := fun z => by
    have P2 : sI.heap.get? b = some oe := by rw [← z]; exact P1
    rw [hne] at P2
    cases P2
  obtain ⟨ha4, hd4⟩ := caused_at (x1 := a) ha hd'
  have h12 : (((vs.setIfInBounds 3 (Value.ref a)).setIfInBounds 4 (Value.bool true)).setIfInBounds 2 (Value.ref a))[1]? = some Value.none := set_other (by decide) (set_other (by decide) (set_other (by decide) h1))
  refine ⟨b, ob, vs, cls, oe, vc, rfl, ha, hz'.1, hd', h1, hi, nab, ⟨hh, oe, vc, k _ _ P1, hvc, hz.2.2 vc hvc⟩, r1, r2, k _ _ P1, hvc, by rw [hz.1]; exact r3, fun Q' hq => ?_, tk _ _ (L2.XE.new J (fun c u z => ?_) hne (Heap.get?_update_self _ ha4 (Obj.isFreed_of_fields (Obj.data_mapFields hd4 _)))
    ⟨by rw [Obj.cls_mapFields, Obj.cls_mapFields, Obj.cls_mapFields]; exact hz'.1, by rw [HandSPX.dict_mapFields, HandSPX.dict_mapFields, HandSPX.dict_mapFields]; exact hz'.2.1⟩ (Obj.data_mapFields hd4 _) h12 na os ag q)⟩
  · obtain ⟨m, ⟨o, es, ep, ho, hr⟩, hl⟩ := J.loc
    obtain ⟨u, ru, l⟩ := hl i n _ hN hs (.inl hln)
    obtain rfl : u = Value.ref a := ru
    rcases l with ⟨hk, hmu⟩ | ⟨hk, _⟩
    · exact wpAny_bind (wpAny_Name (wpAny_loadName_local J.ok.kind hk ⟨o, es, ep, k _ _ ho, hr⟩ hmu (wpAny_bind (wpAny_standAt (wpAny_pure hq)))) hd)
    · rw [hln] at hk
      rcases hk with hk | hk <;> cases hk
  · have nbc : b ≠ c := fun y => by
      rw [← y, hne] at z
      cases z
    show ((caused s1.heap b a).update b (Obj.mapFields (·.setIfInBounds 2 (.ref a)))).get? c = some u
    rw [Heap.get?_update_other _ _ nbc]
    exact k4 c u z
end
/-! try: .. except C as e: a suite that raises. -/
/-- the context of such a suite -/
abbrev sX (X : Cx) (a : Addr) (pn : List (Addr × Obj)) (xe : Value → Shared → Prop) : Cx := { X with A := X.A.mark (some (.ref a)), calm := false, pn := pn, xe := xe }
theorem frames_by {B h h' : Heap} : ∀ {l : List Env}, h.FunFrames B l → (∀ b ∈ frs l, ∃ o, h'.get? b = some o ∧ ∀ vs, o.data ≠ .fields vs) → h'.FunFrames B l
  | [], _, _ => trivial
  | env :: l, ⟨hk, ⟨L, o, hf, hn, ho, hd⟩, hr⟩, k => by
    obtain ⟨o', ho', hd'⟩ := k L (List.mem_filterMap.mpr ⟨env, List.mem_cons_self, hf⟩)
    refine ⟨hk, ⟨L, o', hf, hn, ho', hd'⟩, frames_by hr fun b hb => k b ?_⟩
    obtain ⟨e, he, q⟩ := List.mem_filterMap.mp hb
    exact List.mem_filterMap.mpr ⟨e, List.mem_cons_of_mem _ he, q⟩
section
variable {X : Cx} {pins : List (Addr × Obj)} {σ : L2.St} {H : Hp} {s : Shared}
theorem unsX {a : Addr} {q : Addr × Obj} {pn' : List (Addr × Obj)} {xe : Value → Shared → Prop} (I : Inv (sX X a (q :: (X.pn ++ pins)) xe) pn' σ H s) (ok : X.Ok) : Inv X pins σ H s :=
  Inv.unsuite (X := X) (a := a) (q := q) (pn' := pn') (show Inv (X.suite a (q :: (X.pn ++ pins))) pn' σ H s from I.wish fun _ _ => False) ok
theorem onX {a : Addr} {pn pn' : List (Addr × Obj)} {xe : Value → Shared → Prop} (I : Inv (X.suite a pn) pn' σ H s) : Inv (sX X a pn xe) pn' σ H s := Inv.unwish (X := sX X a pn xe) (E := fun _ _ => False) I
/-- the frame's own namespace alone is another -/
theorem inv_ns {G : Heap} {i : Nat} {m : Str → Option Value} (I : Inv X pins σ H s) (hG : ∀ b, b ≠ X.env.locals → G.get? b = s.heap.get? b) (hm : G.Ns X.env.locals m)
    (hl : ∀ (j : Nat) (y : Str) (v : V), X.N[j]? = some y → (σ.set i none)[j]? = some (some v) → Vis X.env.scope y → ∃ u, RelV v u ∧ Look X.env G m y u) : Inv X pins (σ.set i none) H { s with heap := G } := by
  have nl : ∀ b o, X.s_0.heap.get? b = some o → b ≠ X.env.locals := fun b o e => Nat.ne_of_lt (Nat.lt_of_lt_of_le (Heap.lt_size e) I.ok.above)
  have base : Un X.fs X.ex X.H_0 H X.s_0.heap G := {
    keep := fun b o e n hb hx => (hG b (nl b o e)).trans (I.base.keep b o e n hb hx)
    slot := fun b o e n hb hx => by
      obtain ⟨sl, z⟩ := I.base.slot b o e n hb hx
      exact ⟨sl, (hG b (nl b o e)).trans z⟩
    free := I.base.free
    there := fun b o e hx => by
      obtain ⟨o', z⟩ := I.base.there b o e hx
      exact ⟨o', (hG b (nl b o e)).trans z⟩
    tups := I.base.tups
    frzs := I.base.frzs
    tbls := I.base.tbls }
  exact {
    ok := I.ok
    os := I.os
    bare := I.bare
    base := base
    loc := ⟨m, hm, hl⟩
    cell := fun y c e => by
      obtain ⟨w, o, h1, h2⟩ := I.cell y c e
      exact ⟨w, o, (hG c (I.cne y c e)).trans h1, h2⟩
    free := I.free
    freeC := I.freeC
    pin := fun p hp => by
      obtain ⟨h1, h2, h3, h4, h5⟩ := I.pin p hp
      exact ⟨(hG p.1 h3).trans h1, h2, h3, h4, h5⟩
    hok := fun b ob e => (I.hok b ob e).stay (fun c w hc q => (hG c fun z => by
      subst z
      rcases hc with hc | hc
      · rw [← hc, I.free] at e; cases e
      · rw [I.free] at hc; cases hc).trans q) (fun _ q => q) fun _ _ q => q
    len := by rw [List.length_set]; exact I.len }
/-- an exception in the air while the clause's name goes: it stays in the air -/
theorem air_gone {W : WX} {a : Addr} {xe : Value → Shared → Prop} {i : Nat} {n : Str} {pos : Pos} {A : Around} {Z : Value → Shared → Prop} (hs : X.stack = X.env :: X.outer) (hf : X.env.frame = some X.env.locals) (hN : X.N.Nodup) (hi : X.N[i]? = some n) (hln : X.env.kindOf n = some .local)
    (hfr : A.frames = some (X.env :: X.outer)) (ok : X.Ok) (tk : L2.Takes X W) (hz : ∀ u s, X.xe u s → Z u s) {u : Value} {s' : Shared} {q : Addr × Obj}
    (x : L2.XE (sX X a (q :: (X.pn ++ pins)) xe) (fun cls d σ H => W cls d (σ.set i none) H) u s') (y0 : Value → Shared → Prop) (y1 : Value → Shared → Prop) :
    wpAny (model X.prog X.w) A (noteFrame u X.env) (fun _ s₃ => wpAny (model X.prog X.w) A (do bindName X.env n .none; unbindBehindTheSuite X.env n pos)
      (fun _ s₄ => wpAny (model X.prog X.w) A (passOn "try.except-as" u X.env : Sem Flow) (fun _ _ => False) Z s₄) y0 s₃) y1 s' := by
  obtain ⟨b, B, sI, pn2, σ2, H2, cls, d, rfl, I2, nb, up, sky, na, os, ag, w⟩ := x
  have J : Inv X pins σ2 H2 sI := unsX I2 ok
  have sky' : Sky B (X.env :: X.outer) b (Zc cls d) X.env.locals s'.heap := by rw [← hs]; exact sky
  have fin : ∀ h1, HandSPX.HeldZ B (X.env :: X.outer) b (Zc cls d) X.env.locals h1 → s'.heap.UpToSlots h1 → wpAny (model X.prog X.w) A (do bindName X.env n .none; unbindBehindTheSuite X.env n pos)
      (fun _ s₄ => wpAny (model X.prog X.w) A (passOn "try.except-as" (.ref b) X.env : Sem Flow) (fun _ _ => False) Z s₄) y0 { s' with heap := h1 } := by
    intro h1 hh up1
    have J3 : Inv X pins σ2 H2 { s' with heap := h1 } := J.landed nb hh.1 (up.trans up1) os ag
    obtain ⟨m3, hn3, hl3⟩ := id J3.loc
    have hcls : (X.env.scope.kind == .class || (X.env.scope.kind == .module && X.env.locals != X.env.globals)) = false := by rw [J.ok.kind]; rfl
    refine wpAny_nameGoes_keeps hln hn3 hcls fun h' v hn' hsb => ?_
    obtain ⟨oL, esL, epL, hoL, hdL, hrL⟩ := id hn'
    obtain ⟨o3, es3, ep3, ho3, hd3, _⟩ := id hn3
    have Lin : X.env.locals ∈ frs (X.env :: X.outer) := List.mem_filterMap.mpr ⟨X.env, List.mem_cons_self, hf⟩
    have BL : B.get? X.env.locals = none := (hh.2.2.1.mem Lin).1
    obtain ⟨oe, vs, T, oT, ts, he, hze, hd, h1f, hnT, hTe, hT, hdT, h3⟩ := hh.2.2.2
    have bL : b ≠ X.env.locals := fun z => by
      have he' : h1.get? X.env.locals = some oe := by rw [← z]; exact he
      have ho3' : h1.get? X.env.locals = some o3 := ho3
      rw [he'] at ho3'
      cases ho3'
      rw [hd] at hd3
      cases hd3
    have TL : T ≠ X.env.locals := fun z => by
      have he' : h1.get? X.env.locals = some oT := by rw [← z]; exact hT
      have ho3' : h1.get? X.env.locals = some o3 := ho3
      rw [he'] at ho3'
      cases ho3'
      rw [hdT] at hd3
      cases hd3
    have sb : ∀ c, c ≠ X.env.locals → h'.get? c = h1.get? c := hsb.2
    have fr' : h'.FunFrames B (X.env :: X.outer) := frames_by hh.2.2.1 fun c hc => by
      by_cases z : c = X.env.locals
      · rw [z]
        exact ⟨oL, hoL, fun vs q => by rw [hdL] at q; cases q⟩
      · rw [sb c z]
        exact (hh.2.2.1.mem hc).2
    have held : HandSPX.HeldZ B (X.env :: X.outer) b (Zc cls d) X.env.locals h' := ⟨fun c o e => by
      have z : c ≠ X.env.locals := fun z => by rw [z, BL] at e; cases e
      rw [sb c z]
      exact hh.1 c o e, hh.2.1, fr', oe, vs, T, oT, ts, (sb b bL).trans he, hze, hd, h1f, hnT, hTe, (sb T TL).trans hT, hdT, h3⟩
    unfold PySem.passOn
    refine wpAny_bind (wpAny_field ((sb b bL).trans he) hd h1f ?_)
    rw [if_neg (show ¬ ((Value.ref T == Value.none) = true) from by simp)]
    have out : wpAny (model X.prog X.w) A (setFlight (.ref b) X.env.frame) (fun _ s4 => wpAny (model X.prog X.w) A (throw (.ref b) : Sem Flow) (fun _ _ => False) Z s4) Z { s' with heap := h', toks := s'.toks + 1 } := by
      rw [hf]
      refine HandSPX.setFlight_onZ held fun h4 hh4 up4 => wpAny_throw (hz _ _ (tk _ _ ?_))
      have updL : ∀ c, c ≠ X.env.locals → (sI.heap.update X.env.locals fun _ => oL).get? c = sI.heap.get? c := fun c hc => Heap.get?_update_other _ _ (Ne.symm hc)
      obtain ⟨oI, esI, epI, hoI, _⟩ := id (id J.loc).choose_spec.1
      have atL : (sI.heap.update X.env.locals fun _ => oL).get? X.env.locals = some oL := Heap.get?_update_self _ hoI (Heap.get?_some_iff.mp hoL).2
      refine ⟨b, B, { sI with heap := sI.heap.update X.env.locals fun _ => oL }, pins, σ2.set i none, H2, cls, d, rfl, inv_ns (m := fun y => if y = n then v else m3 y) J updL ⟨oL, esL, epL, atL, hdL, hrL⟩ (fun j y v' e1 e2 e3 => ?_), fun c o e hc => ?_, fun c o e hnf => ?_, .inr (.inr (by rw [hs]; exact hh4)), na, os, ag, w⟩
      · have hj : j ≠ i := fun z => by
          subst z
          by_cases hlt : j < σ2.length
          · rw [List.getElem?_set_self hlt] at e2; cases e2
          · rw [List.getElem?_eq_none (by simpa using hlt)] at e2; cases e2
        rw [List.getElem?_set_ne (Ne.symm hj)] at e2
        obtain ⟨u', ru, l⟩ := hl3 j y v' e1 e2 e3
        have ny : y ≠ n := fun z => hj (nodup_ix hN e1 (z ▸ hi))
        refine ⟨u', ru, ?_⟩
        rcases l with ⟨k, e⟩ | ⟨k, c, e, oc, hoc, hdc⟩
        · exact .inl ⟨k, (if_neg ny).trans e⟩
        · refine .inr ⟨k, c, e, ?_⟩
          obtain ⟨wv, o0, ho0, hd0⟩ := J.cell y c e
          obtain ⟨sl, q⟩ := (up.trans up1) c o0 ho0 fun vs z => by rw [hd0] at z; cases z
          have hoc' : h1.get? c = some oc := hoc
          rw [q] at hoc'
          cases hoc'
          exact ⟨o0, (updL c (J.cne y c e)).trans ho0, hdc⟩
      · have z : c ≠ X.env.locals := fun z => hc (by rw [z, hs]; exact Lin)
        rw [updL c z] at e
        exact nb c o e hc
      · by_cases z : c = X.env.locals
        · rw [z, atL] at e
          cases e
          rw [z]
          exact up4 _ _ hoL hnf
        · rw [updL c z] at e
          obtain ⟨sl, q⟩ := (up.trans up1) c o e hnf
          obtain ⟨sl2, q2⟩ := up4 c _ ((sb c z).trans q) hnf
          exact ⟨sl2, q2⟩
    first
      | exact wpAny_bind (wpAny_pure (wpAny_bind out))
      | exact wpAny_bind out
  rcases sky' with ⟨hB, hn, hl, oe, vs, he, hz1, hd, h1⟩ | fl | hh
  · exact HandSPX.look_newZ Zc.steady hfr hl hf he hB hn hd h1 hz1 fin
  · exact HandSPX.looks_onZ Zc.steady hfr hf fl fin
  · exact HandSPX.againZ hf hh.2.2.2 (fin s'.heap hh (Heap.UpToSlots.refl _))
end
/-! try: .. except C as e: a suite that raises: the rule. -/
section
variable {X : Cx} {x n : Str} {c : Value} {i : Nat} {body suite : List Stmt} {b₀ : Stmt} {np pos pos' : Pos} {tb : WX → TS} {ts : Addr → Value → Option Addr → TS} {Wout : WX}
/-- on the ground: where it lies -/
theorem no_frame {B h : Heap} {a : Addr} {o : Obj} {vs : Array Value} (ff : h.FunFrames B (X.env :: X.outer)) (e : h.get? a = some o) (hd : o.data = .fields vs) : a ∉ frs (X.env :: X.outer) := fun hm => by
  obtain ⟨_, o', e', z⟩ := ff.mem hm
  rw [e] at e'
  cases e'
  exact z _ hd
theorem ps_try_asX (hs : X.stack = X.env :: X.outer) (hf : X.env.frame = some X.env.locals) (hN : X.N.Nodup) (hi : X.N[i]? = some n) (hln : X.env.kindOf n = some .local) (hc : Names X x c)
    (hpa : ∀ hd : Option Value, PassesOwnAt (model X.prog X.w) (X.A.mark hd) X.A X.env X.xe) (tk : L2.Takes X Wout)
    (hb : ∀ (W : WX) (pn : List (Addr × Obj)) (xe : Value → Shared → Prop), L2N.Takes (X.tr pn xe) W → PassesOwn (model X.prog X.w) X.A X.env xe → PSs (X.tr pn xe) body (tb W))
    (hsu : ∀ (a : Addr) (oe : Obj) (cls : Value) (d : Option Addr) (pn : List (Addr × Obj)) (xe : Value → Shared → Prop), L2N.Zn cls d oe → (∃ vs, oe.data = .fields vs) → L2.Takes (sX X a ((a, oe) :: pn) xe) (fun cls d σ H => Wout cls d (σ.set i none) H) →
      HotC (sX X a ((a, oe) :: pn) xe) → PSs (sX X a ((a, oe) :: pn) xe) (b₀ :: suite) (ts a cls d)) :
    PS X (.Try body [.ExceptHandler (some (.Name x np)) (some n) (b₀ :: suite) pos'] [] [] pos) (fun D σ H => tb (wAs X.K c i ts Wout D) D σ H) := by
  refine ⟨fun pins s σ H D I h => ?_⟩
  have ok := I.ok
  have hfr : X.A.frames = some (X.env :: X.outer) := by rw [ok.frames, hs]
  refine wpAny_Try_except ?_
  refine wpAny_mono ((hb (wAs X.K c i ts Wout D) (X.pn ++ pins) (fun e s₁ => wpAny (model X.prog X.w) X.A (noteFrame e X.env) (fun _ s₂ => wpAny (model X.prog X.w) X.A (setFlight e none) (fun _ s₃ =>
    wpAny (model X.prog X.w) X.A (handleBy e X.env [.ExceptHandler (some (.Name x np)) (some n) (b₀ :: suite) pos']) (SP X pins D) X.xe s₃) X.xe s₂) X.xe s₁) (fun u s' xx => ?_) PassesOwn.looking).run [] s σ H D (I.toTry _) h) (fun f s1 hsp => ?_) (fun e s1 he => he)
  · obtain ⟨a, B, sI, pins', σ', H', cls, d, rfl, J', nb, up, sky, na, os, ag, b, hb1, hyes, hno⟩ := xx
    have J : Inv X pins σ' H' sI := J'.ofTry ok
    have sky' : Sky B (X.env :: X.outer) a (L2N.Zn cls d) X.env.locals s'.heap := by rw [← hs]; exact sky
    show wpAny _ X.A (noteFrame (.ref a) X.env) _ _ _
    refine L2N.Sky.land L2N.Zn.steady hfr hf sky' fun h3 fl3 up3 => ?_
    have J3 : Inv X pins σ' H' { s' with heap := h3 } := J.landed nb fl3.1 (up.trans up3) os ag
    obtain ⟨oe3, vs3, he3, hz3, hd3⟩ := fl3.there
    have nfr := no_frame fl3.2.2.1 he3 hd3
    have nL : a ≠ X.env.locals := fun z => nfr (List.mem_filterMap.mpr ⟨X.env, List.mem_cons_self, by rw [hf, z]⟩)
    have nF : a ∉ X.fs := fun hm => by
      obtain ⟨e, he, q⟩ := List.mem_filterMap.mp hm
      exact nfr (List.mem_filterMap.mpr ⟨e, List.mem_cons_of_mem _ he, q⟩)
    have S3 := J3.suite he3 hd3 na nL nF
    refine wpAny_handleBy_cons (codeAny_handlers_test ?_) (by intro q; cases q)
    have LT : PySem.W.Looks (model X.prog X.w) h3 (typeOf (.ref a)) cls := fun A Q E s k q => wpAny_typeOf_ref (k _ _ he3) (by rw [hz3.1]; exact q)
    have LM := PySem.W.exm_one (M := model X.prog X.w) (J3.kIn) LT hb1
    have test : ∀ {Q : Value → Shared → Prop} {E : Value → Shared → Prop}, Q c { s' with heap := h3 } → wpAny (model X.prog X.w) (X.A.mark (some (.ref a))) (eval (.Name x np) X.env) Q E { s' with heap := h3 } := fun {Q E} q => by
      obtain ⟨hg, hdbg, hm | ⟨hm, hv, hnn⟩⟩ := hc
      · exact ld_glob (X := X.suite a ((a, oe3) :: (X.pn ++ pins))) S3 hg hm q hdbg
      · exact ld_blt (X := X.suite a ((a, oe3) :: (X.pn ++ pins))) S3 hg hm hv q hnn hdbg
    refine test (LM.here ?_)
    cases b with
    | true =>
      refine codeAny_handlers_suite_as ?_
      refine HandSPX.lands_againZ fl3 fun h4 fl4 up4 => ?_
      have J4 : Inv X pins σ' H' { s' with heap := h4 } := J.landed nb fl4.1 ((up.trans up3).trans up4) os ag
      obtain ⟨oe4, vs4, he4, hz4, hd4⟩ := fl4.there
      have S4 := J4.suite he4 hd4 na nL nF
      refine store_ok (X := X.suite a ((a, oe4) :: (X.pn ++ pins))) (v := .ref a) S4 hN hi (.inl hln) rfl (fun s5 S5 => ?_) (.inr hln)
      have end_ : ∀ {σ6 : L2.St} {H6 : Hp} {s6 : Shared} {xe : Value → Shared → Prop} {Q : Shared → Prop}, Inv (sX X a ((a, oe4) :: (X.pn ++ pins)) xe) [] σ6 H6 s6 → (∀ s7, Inv X pins (σ6.set i none) H6 s7 → Q s7) →
          wpAny (model X.prog X.w) X.A (do bindName X.env n .none; unbindBehindTheSuite X.env n pos') (fun _ s7 => Q s7) X.xe s6 := fun {σ6 H6 s6 xe Q} S6 hq => gone_ok (unsX S6 ok) hN hi hln hq
      refine wpAny_mono ((hsu a oe4 cls d (X.pn ++ pins) ?xe hz4 ⟨_, hd4⟩ ?tk ⟨(a, oe4), ⟨rfl, vs4, hd4, hz4.2.2 vs4 hd4⟩, List.mem_cons_self⟩).run [] s5 _ H' _ (onX S5) (hyes rfl a na)) (fun f s6 hsp => ?_) (fun e6 s6 z => ?cE)
      case cE => exact z
      case tk =>
        intro u2 s2 x2
        exact air_gone (pins := pins) (A := X.A.mark (some (.ref a))) hs hf hN hi hln hfr ok tk (fun u s z => hpa (some (.ref a)) u s z) x2 _ _
      cases f with
      | next =>
        obtain ⟨σ6, H6, S6, q6⟩ := hsp
        exact end_ S6 fun s7 J7 => ⟨_, _, J7, q6⟩
      | brk =>
        obtain ⟨σ6, H6, S6, q6⟩ := hsp
        exact end_ S6 fun s7 J7 => ⟨_, _, J7, q6⟩
      | cont =>
        obtain ⟨σ6, H6, S6, q6⟩ := hsp
        exact end_ S6 fun s7 J7 => ⟨_, _, J7, q6⟩
      | ret u =>
        obtain ⟨v6, σ6, H6, S6, r6, q6⟩ := hsp
        exact end_ S6 fun s7 J7 => ⟨_, _, _, J7, r6, q6⟩
    | false =>
      show wpAny _ X.A (handleBy (.ref a) X.env []) _ _ _
      refine wpAny_handleBy_nil ?_
      have fl5 : HandSPX.FlyingZ B (X.env :: X.outer) a (Zc cls d) h3 := flyingZ_imp (fun o z => z.zc) fl3
      obtain ⟨k1, k2, k3, oe, vs, T, oT, ts', he, hz, hd, h1, hr⟩ := id fl5
      unfold PySem.passOn
      refine wpAny_bind (wpAny_field he hd h1 ?_)
      rw [if_neg (show ¬ ((Value.ref T == Value.none) = true) from by simp)]
      have fin : wpAny (model X.prog X.w) X.A (setFlight (.ref a) X.env.frame) (fun _ s4 => wpAny (model X.prog X.w) X.A (throw (.ref a) : Sem Flow) (SP X pins D) X.xe s4) X.xe { s' with heap := h3 } := by
        rw [hf]
        refine HandSPX.setFlight_upZ fl5 fun h4 hh4 up4 => wpAny_throw (tk _ _ ?_)
        exact ⟨a, B, sI, pins, σ', H', cls, d, rfl, J, nb, (up.trans up3).trans up4, .inr (.inr (by rw [hs]; exact hh4)), na, os, ag, hno rfl⟩
      first
        | exact wpAny_bind (wpAny_pure (wpAny_bind fin))
        | exact wpAny_bind fin
  · cases f with
    | next =>
      obtain ⟨σ', H', J', q⟩ := hsp
      exact wpAny_execs_nil ⟨σ', H', J'.ofTry ok, q⟩
    | brk =>
      obtain ⟨σ', H', J', q⟩ := hsp
      exact ⟨σ', H', J'.ofTry ok, q⟩
    | cont =>
      obtain ⟨σ', H', J', q⟩ := hsp
      exact ⟨σ', H', J'.ofTry ok, q⟩
    | ret u =>
      obtain ⟨v, σ', H', J', r, q⟩ := hsp
      exact ⟨v, σ', H', J'.ofTry ok, r, q⟩
end
end K9
namespace K9
open PySem PySem.Spec PyProof.Rows L2
/-! ### words of tactics -/
local macro_rules | `(tactic| walk_at "hp") => `(tactic| (first
  | assumption | exact upd_same
  | (refine Ch.at0 (H := ?hpH) ?hpc ?hph; (case hpc => assumption); (case hph => walk_at "hp"))
  | (refine Ch.tup (M := ?hpM) (H := ?hpH) ?hpc ?hph; (case hpc => assumption); (case hph => walk_at "hp"))
  | (refine Ch.at (M := ?hpM) (H := ?hpH) ?hpc ?hph ?hpn; (case hpc => assumption); (case hph => walk_at "hp"); (case hpn => walk_at "ni"))
  | fail "hp"))
local macro_rules | `(tactic| walk_at "ni") => `(tactic| (first | exact ni0 | assumption | (refine ni1 ?nia ?nib; (case nia => walk_at "nq"); (case nib => walk_at "ni")) | fail "ni"))
local macro_rules | `(tactic| walk_at "nq") => `(tactic| (first | assumption | exact Ne.symm (by assumption) | (refine ne_of_none (H := ?nqH) (o := ?nqo) ?nqa ?nqb; (case nqb => assumption); (case nqa => walk_at "hp")) | (refine Ne.symm (ne_of_none (H := ?nqH) (o := ?nqo) ?nqa ?nqb); (case nqb => assumption); (case nqa => walk_at "hp")) | fail "nq"))
local macro_rules | `(tactic| walk_at "sq") => `(tactic| (first
  | assumption | exact SqL.of (by assumption)
  | (refine Ch.sql (M := ?sqM) (H := ?sqH) ?sqc ?sqh ?sqn; (case sqc => assumption); (case sqh => walk_at "sq"); (case sqn => walk_at "ni"))
  | fail "sq"))
local macro_rules | `(tactic| walk_at "tq") => `(tactic| (first
  | assumption | exact SqT.of (by assumption)
  | (refine Ch.sqt (M := ?tqM) (H := ?tqH) ?tqc ?tqh; (case tqc => assumption); (case tqh => walk_at "tq"))
  | fail "tq"))
local macro_rules | `(tactic| walk_at "rd1") => `(tactic| (first
  | ((with_reducible refine te_var (v := ?rdw) ?rdv ?_); (case rdv => exact rfl))
  | (with_reducible (first
  | refine te_c ?_ | refine te_op ?_ | refine te_nil ?_ | refine te_cons ?_ | refine te_cb ?_ | refine te_callR ?_ | refine te_tup ?_ | refine te_lst ?_
  | refine ts_seq ?_ | refine ts_asg ?_ | refine tg_name ?_ | refine ts_ret ?_ | refine ts_retN ?_ | refine ts_if ?_ | refine ts_drop ?_ | refine ts_next ?_ | refine tg_sub ?_
  | refine nd_nx ?_ | refine nd_rt ?_ | refine nd_bk ?_ | refine nd_ct ?_
  | refine tt_test ?_ | refine tt_b ?_ | refine tt_and ?_ | refine tt_or ?_ | refine tt_not ?_ | refine blq ?_ | refine inq ?_ | refine iteT ?_ | refine iteF ?_
  | refine te_then ?_ | refine te_if ?_ | refine te_sl ?_ | refine te_part ?_ | refine te_chain ?_ | refine te_andV ?_ | refine te_orV ?_ | refine te_notV ?_ | refine te_un ?_
  | refine te_din ?_ | refine te_dni ?_ | refine te_dgt ?_ | refine ts_dpt ?_ | refine ts_for ?_ | refine ti_rng ?_ | refine ti_rng2 ?_ | refine ti_lst ?_ | refine ti_tup ?_ | refine ti_str ?_ | refine ti_key ?_ | refine strq ?_ | refine te_lc ?_ | refine te_dc ?_ | refine tt_yes ?_
  | refine r_addI ?_ | refine r_I0 ?_ | refine r_eqI ?_ | refine r_eqS ?_ | refine r_neI ?_ | refine r_neS ?_ | refine r_U ?_ | refine r_intI ?_ | refine r_intB ?_))
  | ((with_reducible refine r_ixL (xs := ?rdx) (v := ?rdw) ?rdh ?rde ?_); (case rdh => walk_at "sq"); (case rde => exact rfl))
  | ((with_reducible refine r_ixT (xs := ?rdx) (v := ?rdw) ?rdh ?rde ?_); (case rdh => walk_at "tq"); (case rde => exact rfl))
  | ((with_reducible refine r_lenL (xs := ?rdx) ?rdh ?_); (case rdh => walk_at "sq"))
  | ((with_reducible refine r_lenT (xs := ?rdx) ?rdh ?_); (case rdh => walk_at "tq"))
  | ((with_reducible refine r_lenD (kvs := ?rdx) ?rdh ?_); (case rdh => walk_at "hp"))
  | ((with_reducible refine r_set' (xs := ?rdx) (j := ?rdj) ?rdh ?rde ?_); (case rdh => walk_at "hp"); (case rde => exact rfl); (intro rH rc rh))
  | ((with_reducible refine newT ?rdc ?_); (case rdc => (simp; done)); (intro rp rH rn rc rh))
  | ((with_reducible refine newL ?rdc ?_); (case rdc => (simp; done)); (intro rp rH rn rc rh))
  | ((with_reducible refine te_dnw ?_); (intro rp rH rn rc rh))
  | ((with_reducible refine lisq (xs := ?rdx) ?rdh ?_); (case rdh => walk_at "sq"))
  | ((with_reducible refine tupq (xs := ?rdx) ?rdh ?_); (case rdh => walk_at "tq"))
  | ((with_reducible refine rngq ?rdc ?_); (case rdc => walk_at "sd"))
  | ((with_reducible refine r_I ?rdc ?_); (case rdc => walk_at "sd"))
  | ((with_reducible refine r_mulI ?rdc ?_); (case rdc => omega))
  | fail "rd"))
local macro_rules | `(tactic| walk_at "sd") => `(tactic| (first | (constructor <;> omega) | omega | decide | (refine ⟨?_, ?_, ?_⟩ <;> decide)))
local macro_rules | `(tactic| walk_at "rd") => `(tactic| repeat (walk_at "rd1"))
local macro_rules | `(tactic| walk_at "ch") => `(tactic| (first
  | assumption | exact Ch.refl | exact Ch.nil (by assumption)
  | (refine Ch.trans (H1 := ?chm) ?cha ?chb; (case chb => (first | assumption | exact Ch.nil (by assumption) | (refine Ch.mono (M := ?chl) ?chx ?chy; (case chx => assumption); (case chy => (intro _ chz; simp at chz ⊢; simp [chz]))))); (case cha => walk_at "ch"))
  | fail "ch"))
local macro_rules | `(tactic| walk_at "nx") => `(tactic| repeat (with_reducible (first | refine ts_next ?_ | refine nd_nx ?_)))
local macro_rules | `(tactic| walk_at "dm") => `(tactic| (first | assumption | (refine Dt.mono (M := ?dmM) (H := ?dmH) ?dmc ?dmh; (case dmc => assumption); (case dmh => walk_at "dm")) | fail "dm"))
local macro_rules | `(tactic| walk_at "dt") => `(tactic| (first | exact Dt.int _ | exact Dt.str _ | exact Dt.bl _ | exact Dt.non | walk_at "dm" | (refine Dt.tup (xs := ?dtx) ?dta ?dtb; (case dta => walk_at "tq"); (case dtb => walk_at "dts")) | fail "dt"))
local macro_rules | `(tactic| walk_at "dsm") => `(tactic| (first | assumption | (refine Dts.mono (M := ?dmM) (H := ?dmH) ?dmc ?dmh; (case dmc => assumption); (case dmh => walk_at "dsm")) | fail "dsm"))
local macro_rules | `(tactic| walk_at "dts") => `(tactic| (first | exact Dts.nil | walk_at "dsm" | (refine Dts.cons ?dtsa ?dtsb; (case dtsa => walk_at "dt"); (case dtsb => walk_at "dts")) | fail "dts"))
local macro_rules | `(tactic| walk_at "it") => `(tactic| (first | refine itT (by rfl) ?_ | refine itF (by rfl) ?_ | fail "it"))
local macro_rules | `(tactic| walk_at "if") => `(tactic| with_reducible (first | refine iteF ?_ | refine iteT ?_))
local macro_rules | `(tactic| walk_at "itk") => `(tactic| (first | (refine itT ?itk ?_; (case itk => decide +kernel)) | (refine itF ?itk ?_; (case itk => decide +kernel)) | fail "itk"))
/-! The script's state: any pick is below its limit. -/
/-- a def that calls itself: on smaller data alone -/
def spLt (f : Nat → Sp) (m : Nat) : Sp := fun vs H Q E => 1 ≤ m ∧ f (m - 1) vs H Q E
theorem dm_pos {ds : List PyData} {m : Nat} (h : (PyData.tuple ds).depth ≤ m) : 1 ≤ m := Nat.le_trans (Nat.succ_le_succ (Nat.zero_le _)) (show PyData.depthAll ds + 1 ≤ m from h)
/-- the state: at sa, the script's own list at la -/
structure StA (K : PySem.W.Frag) (H : Hp) (sa la : Addr) : Prop where
  ne : la ≠ sa
  ex : ∃ (seed idx rst : Int) (ns : List Int), H sa = some (.lst [.int seed, .ref la, .int idx, .int rst]) ∧ H la = some (.lst (ns.map V.int)) ∧ ns.length ≤ 63 ∧ 0 ≤ seed ∧ seed < 2147483647 ∧ 0 ≤ idx ∧ 0 ≤ rst
def spPick (K : PySem.W.Frag) : Sp := fun vs H Q _ => ∃ sa la n, vs = [.ref sa, .int n] ∧ 1 ≤ n ∧ n ≤ 1000000000 ∧ StA K H sa la ∧ ∀ r H', 0 ≤ r → r < n → StA K H' sa la → Ch [sa] H H' → Q (.int r) H'
theorem fmod_b {i n : Int} (h : 1 ≤ n) : 0 ≤ i.fmod n ∧ i.fmod n < n := by
  rw [Int.fmod_eq_emod_of_nonneg _ (by omega)]
  exact ⟨Int.emod_nonneg _ (by omega), Int.emod_lt_of_pos _ (by omega)⟩
theorem fdiv_b {i n : Int} (h : 1 ≤ n) (h0 : 0 ≤ i) : 0 ≤ i.fdiv n := by
  rw [Int.fdiv_eq_ediv_of_nonneg _ (by omega)]
  exact Int.ediv_nonneg h0 (by omega)
theorem at_map {ns : List Int} {i : Int} (h0 : 0 ≤ i) (h : i < (ns.map V.int).length) : ∃ z, atI (ns.map V.int) i = some (.int z) := by
  obtain ⟨j, rfl⟩ := Int.eq_ofNat_of_zero_le h0
  have hj : j < ns.length := by simpa using h
  refine ⟨ns[j], atI_nat ?_⟩
  simp [hj]
theorem pure_pick {K : PySem.W.Frag} (vs : List V) (H : Hp) (Q : VK) (E : XK) (h : spPick K vs H Q E) : t__law_pick K { nx := fun _ H' => Q .non H', rt := Q } (start N__law_pick vs) H := by
  obtain ⟨sa, la, n, rfl, h1, h2, ⟨hne, seed, idx, rst, ns, e1, e2, hl, s0, s1, i0, r0⟩, k⟩ := h
  unfold t__law_pick
  walk_at "rd"
  refine itd (fun c => ?_) (fun c => ?_)
  · walk_at "rd"
    exact k _ _ (fmod_b h1).1 (fmod_b h1).2 ⟨hne, _, _, _, ns, by walk_at "hp", by walk_at "hp", hl, s0, s1, i0, fdiv_b h1 r0⟩ (by walk_at "ch")
  · have fin : ∀ (cell x : Int) (y : Option V) (H1 : Hp) (idx : Int), 0 ≤ idx → Ch [sa] H H1 → H1 sa = some (.lst [.int seed, .ref la, .int idx, .int rst]) →
        (tSeq (tAsg (tOp rMod (tOp rMulG (tOp (rAddG K) (tOp (rAddG K) (tCB rIntG (tCons (tOp (rIx K) (tVar 0) (tC (.int 0))) tNil)) (tOp rMod (tVar 3) (tC (.int 2147483647)))) (tC (.int 1))) (tC (.int 48271))) (tC (.int 2147483647))) (gName 4))
          (tSeq (tAsg (tOp rMod (tOp (rAddG K) (tOp rMulG (tVar 4) (tC (.int 69621))) (tC (.int 12345))) (tC (.int 2147483647))) (gSub (tVar 0) (tC (.int 0)) rSetL))
          (tRet (tOp rMod (tOp rFdiv (tCB rIntG (tCons (tOp (rIx K) (tVar 0) (tC (.int 0))) tNil)) (tC (.int 7))) (tVar 1))))) { nx := fun _ H' => Q .non H', rt := Q } [some (.ref sa), some (.int n), y, some (.int cell), none] H1 := by
      intro cell x y H1 idx i0 c1 e1
      obtain ⟨q1, q2⟩ := fmod_b (i := cell) (n := 2147483647) (by decide)
      walk_at "rd"
      obtain ⟨w1, w2⟩ := fmod_b (i := (seed + cell.fmod 2147483647 + 1) * 48271) (n := 2147483647) (by decide)
      walk_at "rd"
      obtain ⟨z1, z2⟩ := fmod_b (i := (((seed + cell.fmod 2147483647 + 1) * 48271).fmod 2147483647) * 69621 + 12345) (n := 2147483647) (by decide)
      exact k _ _ (fmod_b h1).1 (fmod_b h1).2 ⟨hne, _, _, _, ns, by walk_at "hp", by walk_at "hp", hl, z1, z2, i0, r0⟩ (by walk_at "ch")
    refine nd_nx ?_
    refine ts_seq (ts_asg (te_c (tg_name (nd_nx (ts_seq (ts_if ?_))))))
    walk_at "rd"
    refine itd (fun c2 => ?_) (fun c2 => ?_)
    · obtain ⟨cell, hc⟩ := at_map i0 c2
      walk_at "rd"
      refine r_ixL (SqL.of e2) hc ?_
      walk_at "rd"
      have big : ∀ {x : Int}, (10 : Int) ^ (18 : Int).toNat ≤ x → 0 ≤ x := fun {x} hx => Int.le_trans (by decide) hx
      refine itd (fun c3 => ?_) (fun c3 => ?_)
      · walk_at "rd"
        refine itd (fun c4 => ?_) (fun c4 => ?_)
        · walk_at "rd"
          exact k _ _ (fmod_b h1).1 (fmod_b h1).2 ⟨hne, _, _, _, ns, by walk_at "hp", by walk_at "hp", hl, s0, s1, by omega, fdiv_b h1 (big c4)⟩ (by walk_at "ch")
        · walk_at "nx"
          refine fin (1 - cell) 0 _ _ (idx + 1) ?_ ?_ ?_
          · exact Int.add_nonneg i0 (by decide)
          · walk_at "ch"
          · walk_at "hp"
      · walk_at "rd"
        refine itd (fun c4 => ?_) (fun c4 => ?_)
        · walk_at "rd"
          exact k _ _ (fmod_b h1).1 (fmod_b h1).2 ⟨hne, _, _, _, ns, by walk_at "hp", by walk_at "hp", hl, s0, s1, by omega, fdiv_b h1 (big c4)⟩ (by walk_at "ch")
        · walk_at "nx"
          refine fin cell 0 _ _ (idx + 1) ?_ ?_ ?_
          · exact Int.add_nonneg i0 (by decide)
          · walk_at "ch"
          · walk_at "hp"
    · walk_at "nx"
      exact fin 11 0 _ _ _ i0 Ch.refl e1
/-! ### the start -/
def spStart (K : PySem.W.Frag) : Sp := fun vs H Q _ => ∃ (a : Addr) (ns : List Int), vs = [.ref a] ∧ SqL K H a (ns.map V.int) ∧ ns.length ≤ 63 ∧ ∀ sa la H', H sa = none → H la = none → StA K H' sa la → Ch [] H H' → Q (.ref sa) H'
theorem pure_start {K : PySem.W.Frag} (vs : List V) (H : Hp) (Q : VK) (E : XK) (h : spStart K vs H Q E) : t__law_start K { nx := fun _ H' => Q .non H', rt := Q } (L2.start N__law_start vs) H := by
  obtain ⟨a, ns, rfl, hS, hl, k⟩ := h
  unfold t__law_start
  walk_at "rd"
  rw [List.length_map]
  walk_at "rd"
  refine forq walks_rng (fun _ σ H' => ∃ (seed : Int) (v : Option V), σ = [some (.ref a), some (.int seed), v] ∧ 0 ≤ seed ∧ seed < 2147483647 ∧ H' = H) ⟨7, none, rfl, by decide, by decide, rfl⟩ (fun _ _ _ _ => trivial) ?_ ?_
  · rintro i _ σ H' hi rfl ⟨seed, v, rfl, s0, s1, rfl⟩
    obtain ⟨z, hz⟩ := at_map (ns := ns) (i := 0 + (i : Int)) (by omega) (by rw [List.length_map]; omega)
    walk_at "rd"
    refine r_ixL hS hz ?_
    walk_at "rd"
    obtain ⟨z1, z2⟩ := fmod_b (i := seed * 48271 + z.fmod 2147483647 + (0 + (i : Int)) + 1) (n := 2147483647) (by decide)
    exact ⟨_, _, rfl, z1, z2, rfl⟩
  · rintro σ H' ⟨seed, v, rfl, s0, s1, rfl⟩
    walk_at "rd"
    refine r_listL hS fun la H1 n1 c1 e1 => ?_
    walk_at "rd"
    rename_i sa H2 n2 c2 e2
    exact k sa la H2 (c1.free n2) n1 ⟨(fun e => by rw [e, n2] at e1; cases e1), seed, 0, 0, ns, by walk_at "hp", by walk_at "hp", hl, s0, s1, Int.le_refl _, Int.le_refl _⟩ (c1.trans c2)
end K9
namespace K9
open PySem PySem.Spec PyProof.Rows L2
/-! Data: its kind, its parts, its equality; own errors with one field. -/
/-! ### the class of data -/
def tyD : PyData → String
  | .none => "NoneType" | .bool _ => "bool" | .int _ => "int" | .str _ => "str" | .list _ => "list" | .tuple _ => "tuple" | .dict _ => "dict"
def isTupD : PyData → Bool
  | .tuple _ => true
  | _ => false
def isStrD : PyData → Bool
  | .str _ => true
  | _ => false
def isIntD : PyData → Bool
  | .int _ => true
  | .bool _ => true
  | _ => false
def isBoolD : PyData → Bool
  | .bool _ => true
  | _ => false
section
variable {K : PySem.W.Frag} {H : Hp} {Q : VK} {v : V} {d : PyData}
theorem SqT.ty {a : Addr} {xs : List V} (h : SqT K H a xs) : TyX K H (.ref a) (.type "tuple") := by
  rcases h with (h | ⟨o, h⟩) | ⟨o, its, n, h1, h2, _⟩
  · exact .base (.tup h)
  · exact .fTuple h
  · exact .kTuple h1 h2
theorem SqL.ty {a : Addr} {xs : List V} (h : SqL K H a xs) : TyX K H (.ref a) (.type "list") := by
  rcases h with (h | ⟨o, h⟩) | ⟨o, its, n, h1, h2, _⟩
  · exact .base (.lst h)
  · exact .base (.frz h)
  · exact .kList h1 h2
theorem Dt.ty (h : Dt K H v d) : TyX K H v (.type (tyD d)) := by
  cases h with
  | non => exact .base .non
  | bl b => exact .base (.bl b)
  | int i => exact .base (.int i)
  | str x => exact .base (.str x)
  | tup h _ => exact SqT.ty h
theorem r_isi {c : String} {b : Bool} (h : Dt K H v d) (hb : kitB (tyD d) c = some b) (k : Q (.bl b) H) : rIsi K [v, .ty c] H Q := ⟨v, .ty c, _, _, b, rfl, .ty c, h.ty, kit_ty hb, k⟩
theorem r_isTup (h : Dt K H v d) (k : Q (.bl (isTupD d)) H) : rIsi K [v, .ty "tuple"] H Q := by
  cases h with
  | non => exact r_isi .non (show kitB "NoneType" "tuple" = some false by decide +kernel) k
  | bl b => exact r_isi (.bl b) (show kitB "bool" "tuple" = some false by decide +kernel) k
  | int i => exact r_isi (.int i) (show kitB "int" "tuple" = some false by decide +kernel) k
  | str x => exact r_isi (.str x) (show kitB "str" "tuple" = some false by decide +kernel) k
  | tup h hs => exact r_isi (.tup h hs) (show kitB "tuple" "tuple" = some true by decide +kernel) k
theorem r_isStr (h : Dt K H v d) (k : Q (.bl (isStrD d)) H) : rIsi K [v, .ty "str"] H Q := by
  cases h with
  | non => exact r_isi .non (show kitB "NoneType" "str" = some false by decide +kernel) k
  | bl b => exact r_isi (.bl b) (show kitB "bool" "str" = some false by decide +kernel) k
  | int i => exact r_isi (.int i) (show kitB "int" "str" = some false by decide +kernel) k
  | str x => exact r_isi (.str x) (show kitB "str" "str" = some true by decide +kernel) k
  | tup h hs => exact r_isi (.tup h hs) (show kitB "tuple" "str" = some false by decide +kernel) k
theorem r_isInt (h : Dt K H v d) (k : Q (.bl (isIntD d)) H) : rIsi K [v, .ty "int"] H Q := by
  cases h with
  | non => exact r_isi .non (show kitB "NoneType" "int" = some false by decide +kernel) k
  | bl b => exact r_isi (.bl b) (show kitB "bool" "int" = some true by decide +kernel) k
  | int i => exact r_isi (.int i) (show kitB "int" "int" = some true by decide +kernel) k
  | str x => exact r_isi (.str x) (show kitB "str" "int" = some false by decide +kernel) k
  | tup h hs => exact r_isi (.tup h hs) (show kitB "tuple" "int" = some false by decide +kernel) k
theorem r_isBool (h : Dt K H v d) (k : Q (.bl (isBoolD d)) H) : rIsi K [v, .ty "bool"] H Q := by
  cases h with
  | non => exact r_isi .non (show kitB "NoneType" "bool" = some false by decide +kernel) k
  | bl b => exact r_isi (.bl b) (show kitB "bool" "bool" = some true by decide +kernel) k
  | int i => exact r_isi (.int i) (show kitB "int" "bool" = some false by decide +kernel) k
  | str x => exact r_isi (.str x) (show kitB "str" "bool" = some false by decide +kernel) k
  | tup h hs => exact r_isi (.tup h hs) (show kitB "tuple" "bool" = some false by decide +kernel) k
end
/-! ### what a term's parts are: ints, short texts, tuples that are not too long -/
mutual
def plD : PyData → Bool
  | .int _ => true
  | .str z => decide (z.length ≤ 1000) && PyData.strOk z
  | .tuple ds => decide (ds.length ≤ 1000) && plDs ds
  | .none => false
  | .bool _ => false
  | .list _ => false
  | .dict _ => false
def plDs : List PyData → Bool
  | [] => true
  | d :: ds => plD d && plDs ds
end
mutual
def szD : PyData → Nat
  | .tuple ds => 1 + szDs ds
  | .int _ => 1
  | .str _ => 1
  | .none => 1
  | .bool _ => 1
  | .list _ => 1
  | .dict _ => 1
def szDs : List PyData → Nat
  | [] => 0
  | d :: ds => szD d + szDs ds
end
theorem plDs_get : ∀ {ds : List PyData} {i : Nat} {d : PyData}, plDs ds = true → ds[i]? = some d → plD d = true
  | [], i, d, _, h => by simp at h
  | x :: r, 0, d, h, e => by
    have e' : x = d := by simpa using e
    subst e'
    exact (Bool.and_eq_true_iff.mp (show (plD x && plDs r) = true from h)).1
  | x :: r, i + 1, d, h, e => plDs_get (i := i) (Bool.and_eq_true_iff.mp (show (plD x && plDs r) = true from h)).2 (by simpa using e)
theorem dpDs_get : ∀ {ds : List PyData} {i : Nat} {d : PyData}, ds[i]? = some d → d.depth ≤ PyData.depthAll ds
  | [], i, d, h => by simp at h
  | x :: r, 0, d, e => by
    have e' : x = d := by simpa using e
    subst e'
    exact Nat.le_max_left _ _
  | x :: r, i + 1, d, e => Nat.le_trans (dpDs_get (i := i) (ds := r) (by simpa using e)) (Nat.le_max_right _ _)
theorem szDs_get : ∀ {ds : List PyData} {i : Nat} {d : PyData}, ds[i]? = some d → szDs (ds.take i) + szD d ≤ szDs ds
  | [], i, d, h => by simp at h
  | x :: r, 0, d, e => by
    have e' : x = d := by simpa using e
    subst e'
    show 0 + szD x ≤ szD x + szDs r
    omega
  | x :: r, i + 1, d, e => by
    have h := szDs_get (i := i) (ds := r) (d := d) (by simpa using e)
    show szD x + szDs (r.take i) + szD d ≤ szD x + szDs r
    omega
theorem szDs_take : ∀ {ds : List PyData} {i : Nat} {d : PyData}, ds[i]? = some d → szDs (ds.take (i + 1)) = szDs (ds.take i) + szD d
  | [], i, d, h => by simp at h
  | x :: r, 0, d, e => by
    have e' : x = d := by simpa using e
    subst e'
    show szD x + szDs [] = szDs [] + szD x
    omega
  | x :: r, i + 1, d, e => by
    have h := szDs_take (i := i) (ds := r) (d := d) (by simpa using e)
    show szD x + szDs (r.take (i + 1)) = szD x + szDs (r.take i) + szD d
    omega
theorem szDs_len : ∀ ds : List PyData, ds.length ≤ szDs ds
  | [] => Nat.le_refl _
  | x :: r => by
    have h := szDs_len r
    have h1 : 1 ≤ szD x := by cases x <;> simp [szD]
    show r.length + 1 ≤ szD x + szDs r
    omega
/-! ### equality: two such data are == where they are the same -/
mutual
theorem eqv_pl : ∀ {d e : PyData}, plD d = true → plD e = true → (PyData.eqv d e = true ↔ d = e)
  | .int i, .int j, _, _ => by simp [PyData.eqv]
  | .str i, .str j, _, _ => by simp [PyData.eqv]
  | .tuple ds, .tuple es, h, h' => by
    have a := eqvs_pl (Bool.and_eq_true_iff.mp (show (decide (ds.length ≤ 1000) && plDs ds) = true from h)).2 (Bool.and_eq_true_iff.mp (show (decide (es.length ≤ 1000) && plDs es) = true from h')).2
    show PyData.eqvAll ds es = true ↔ _
    rw [a]
    simp
  | .int _, .str _, _, _ => by simp [PyData.eqv]
  | .int _, .tuple _, _, _ => by simp [PyData.eqv]
  | .str _, .int _, _, _ => by simp [PyData.eqv]
  | .str _, .tuple _, _, _ => by simp [PyData.eqv]
  | .tuple _, .int _, _, _ => by simp [PyData.eqv]
  | .tuple _, .str _, _, _ => by simp [PyData.eqv]
  | .none, _, h, _ => by simp [plD] at h
  | .bool _, _, h, _ => by simp [plD] at h
  | .list _, _, h, _ => by simp [plD] at h
  | .dict _, _, h, _ => by simp [plD] at h
  | .int _, .none, _, h => by simp [plD] at h
  | .int _, .bool _, _, h => by simp [plD] at h
  | .int _, .list _, _, h => by simp [plD] at h
  | .int _, .dict _, _, h => by simp [plD] at h
  | .str _, .none, _, h => by simp [plD] at h
  | .str _, .bool _, _, h => by simp [plD] at h
  | .str _, .list _, _, h => by simp [plD] at h
  | .str _, .dict _, _, h => by simp [plD] at h
  | .tuple _, .none, _, h => by simp [plD] at h
  | .tuple _, .bool _, _, h => by simp [plD] at h
  | .tuple _, .list _, _, h => by simp [plD] at h
  | .tuple _, .dict _, _, h => by simp [plD] at h
theorem eqvs_pl : ∀ {ds es : List PyData}, plDs ds = true → plDs es = true → (PyData.eqvAll ds es = true ↔ ds = es)
  | [], [], _, _ => by simp [PyData.eqvAll]
  | [], _ :: _, _, _ => by simp [PyData.eqvAll]
  | _ :: _, [], _, _ => by simp [PyData.eqvAll]
  | x :: r, y :: s, h, h' => by
    obtain ⟨h1, h2⟩ := Bool.and_eq_true_iff.mp (show (plD x && plDs r) = true from h)
    obtain ⟨g1, g2⟩ := Bool.and_eq_true_iff.mp (show (plD y && plDs s) = true from h')
    have a := eqv_pl h1 g1
    have b := eqvs_pl h2 g2
    show (PyData.eqv x y && PyData.eqvAll r s) = true ↔ _
    rw [Bool.and_eq_true, a, b]
    simp
end
mutual
theorem pl_canLay : ∀ {d : PyData}, plD d = true → d.canLay0 = true
  | .int _, _ => rfl
  | .str z, h => (Bool.and_eq_true_iff.mp (show (decide (z.length ≤ 1000) && PyData.strOk z) = true from h)).2
  | .tuple ds, h => pls_canLay (Bool.and_eq_true_iff.mp (show (decide (ds.length ≤ 1000) && plDs ds) = true from h)).2
  | .none, h => by simp [plD] at h
  | .bool _, h => by simp [plD] at h
  | .list _, h => by simp [plD] at h
  | .dict _, h => by simp [plD] at h
theorem pls_canLay : ∀ {ds : List PyData}, plDs ds = true → PyData.canLayAll0 ds = true
  | [], _ => rfl
  | x :: r, h => by
    obtain ⟨h1, h2⟩ := Bool.and_eq_true_iff.mp (show (plD x && plDs r) = true from h)
    show (x.canLay0 && PyData.canLayAll0 r) = true
    rw [pl_canLay h1, pls_canLay h2] <;> rfl
end
theorem pl_shaped {d : PyData} (h : plD d = true) (hd : d.depth ≤ 64) : SeqAt.shaped d = true := by
  unfold SeqAt.shaped
  rw [pl_canLay h, decide_eq_true hd] <;> rfl
/-! ### a comprehension that makes data -/
theorem Ch.fresh {M : List Addr} {H H' : Hp} {p : Addr} (c : Ch (p :: M) H H') (h : H p = none) : Ch M H H' := ⟨fun a o e n => c.keep a o e (n.imp (fun z y => (List.mem_cons.mp y).elim (ne_of_none e h) z) id), c.dom⟩
theorem Ch.fresh1 {M : List Addr} {H H1 H' : Hp} {p : Addr} (c : Ch M H H1) (d : Ch [p] H1 H') (h : H p = none) : Ch M H H' :=
  Ch.fresh ((c.mono fun _ z => List.mem_cons_of_mem _ z).trans (d.mono fun a z => by rw [List.mem_singleton.mp z]; exact List.mem_cons_self)) h
theorem lc_dat {K : PySem.W.Frag} {J : It} {G : Hp → Prop} {n j : Nat} {it : Nat → V → Prop} {te : TE} {σ : L2.St} {Q : VK} {H1 : Hp} {M : List Addr} (w : Walks J G n it) (hn : n ≤ 100000) (P : Nat → PyData → Prop) (hG : ∀ H', Ch M H1 H' → G H')
    (hs : ∀ i x H' (W : VK), i < n → it i x → Ch M H1 H' → (∀ y H'' d, Dt K H'' y d → P i d → Ch M H' H'' → W y H'') → te ((wipe σ [j]).set j (some x)) H' W) (hM : ∀ D, H1 D = none → D ∉ M)
    (k : ∀ D ys ds H', H1 D = none → H' D = some (.lst ys) → Dts K H' ys ds → ds.length = n → (∀ i d, ds[i]? = some d → P i d) → Ch M H1 H' → Q (.ref D) H') : LcQ J (gName j) tYes te [j] σ Q H1 := by
  refine lcq w (fun D i ys H' => ∃ ds, Dts K H' ys ds ∧ ds.length = i ∧ (∀ i d, ds[i]? = some d → P i d) ∧ Ch M H1 H') (fun D H2 hD c e => ⟨[], .nil, rfl, fun _ _ h => by simp at h, c.nil⟩) (fun D i ys H ⟨_, _, _, _, c⟩ => hG H c) ?_ ?_
  · rintro D i x ys H hD hi hx ⟨ds, h1, h2, h3, c⟩ e hl
    refine tt_yes (iteT (hs i x H _ hi hx c fun y H4 d hy hp c4 => ?_))
    have e4 : H4 D = some (.lst ys) := c4.at e (hM D hD)
    refine itemq e4 hl (Nat.lt_of_lt_of_le hi hn) fun H5 c5 e5 => ⟨ds ++ [d], ((h1.mono c4).append (.cons hy .nil)).mono c5, by simp [h2], fun m z hz => ?_, Ch.fresh1 (c.trans c4) c5 hD⟩
    by_cases q : m < ds.length
    · rw [List.getElem?_append_left q] at hz
      exact h3 m z hz
    · rw [List.getElem?_append_right (Nat.le_of_not_lt q)] at hz
      have m0 : m = ds.length := by
        cases r : m - ds.length with
        | zero => omega
        | succ r' => rw [r] at hz; simp at hz
      subst m0
      simp at hz
      subst hz
      rw [h2]
      exact hp
  · rintro D ys H hD ⟨ds, h1, h2, h3, c⟩ e _
    exact k D ys ds H hD e h1 h2 h3 c
theorem r_tupL {K : PySem.W.Frag} {H : Hp} {Q : VK} {p : Addr} {xs : List V} (h : SqL K H p xs) (k : ∀ l H2, H l = none → Ch [] H H2 → H2 l = some (.tup xs) → Q (.ref l) H2) : kTup K (.ref p) H Q := .inl ⟨p, xs, rfl, h, fun l hl => k l _ hl (Ch.new hl) upd_same⟩
theorem map_of {α β : Type} {xs : List α} {ys : List β} {f : α → β} (hl : ys.length = xs.length) (h : ∀ (i : Nat) x y, xs[i]? = some x → ys[i]? = some y → y = f x) : ys = xs.map f := by
  apply List.ext_getElem?
  intro i
  rw [List.getElem?_map]
  cases e : xs[i]? with
  | none =>
    have z := List.getElem?_eq_none_iff.mp e
    rw [List.getElem?_eq_none_iff.mpr (by omega)] <;> rfl
  | some x =>
    have z : i < xs.length := (List.getElem?_eq_some_iff.mp e).1
    have z2 : i < ys.length := by omega
    rw [List.getElem?_eq_getElem z2]
    show some ys[i] = some (f x)
    rw [h i x ys[i] e (List.getElem?_eq_getElem z2)]
/-! ### dicts with texts as keys -/
def DinQ (Q : VK) (y x : V) (H : Hp) : Prop := ∃ a o, x = .ref a ∧ DGet H a y o ∧ Q (.bl o.isSome) H
def DniQ (Q : VK) (y x : V) (H : Hp) : Prop := ∃ a o, x = .ref a ∧ DGet H a y o ∧ Q (.bl (!o.isSome)) H
def DgtQ (Q : VK) (x y : V) (H : Hp) : Prop := ∃ a v, x = .ref a ∧ DGet H a y (some v) ∧ Q v H
def DptQ (k : Hp → Prop) (x y v : V) (H : Hp) : Prop := ∃ a H4, x = .ref a ∧ DPut H a y v H4 ∧ k H4
section
variable {σ : L2.St} {H : Hp} {Q : VK} {D : Ends} {ty td tv : TE} {a : Addr} {kvs : List (Key × V)} {z : Str} {v : V}
theorem te_din (k : ty σ H fun y H1 => td σ H1 fun x H2 => DinQ Q y x H2) : tDIn ty td σ H Q := k
theorem te_dni (k : ty σ H fun y H1 => td σ H1 fun x H2 => DniQ Q y x H2) : tDNotIn ty td σ H Q := k
theorem te_dgt (k : td σ H fun x H1 => ty σ H1 fun y H2 => DgtQ Q x y H2) : tDGet td ty σ H Q := k
theorem ts_dpt (k : tv σ H fun v H1 => td σ H1 fun x H2 => ty σ H2 fun y H3 => DptQ (D.nx σ) x y v H3) : sDPut td ty tv D σ H := k
theorem te_dnw (k : ∀ d H2, H d = none → Ch [] H H2 → H2 d = some (.dK []) → Q (.ref d) H2) : tDNewK σ H Q := fun d hd => k d _ hd (Ch.new hd) upd_same
theorem r_U {g : Int → V} {i : Int} (k : Q (g i) H) : rU g (.int i) H Q := ⟨i, rfl, k⟩
theorem r_dictD (h : Rd H a (.dK kvs)) (k : ∀ l H2, H l = none → Ch [] H H2 → H2 l = some (.dK kvs) → Q (.ref l) H2) : rDictD [.ref a] H Q := ⟨a, kvs, rfl, h, fun l hl => k l _ hl (Ch.new hl) upd_same⟩
theorem dget_rd (h : Rd H a (.dK kvs)) : DGet H a (.str z) (valV kvs (Sum.inr z)) := .inl ⟨kvs, Sum.inr z, h, rfl, rfl⟩
theorem dinq (h : Rd H a (.dK kvs)) (q : Q (.bl (valV kvs (Sum.inr z : Key)).isSome) H) : DinQ Q (.str z) (.ref a) H := ⟨a, _, rfl, dget_rd h, q⟩
theorem dniq (h : Rd H a (.dK kvs)) (q : Q (.bl (!(valV kvs (Sum.inr z : Key)).isSome)) H) : DniQ Q (.str z) (.ref a) H := ⟨a, _, rfl, dget_rd h, q⟩
theorem dgtq (h : Rd H a (.dK kvs)) (e : valV kvs (Sum.inr z : Key) = some v) (q : Q v H) : DgtQ Q (.ref a) (.str z) H := ⟨a, v, rfl, by rw [← e]; exact dget_rd h, q⟩
theorem dptq {k : Hp → Prop} (h : H a = some (.dK kvs)) (hl : kvs.length ≤ 100000) (q : ∀ H2, Ch [a] H H2 → H2 a = some (.dK (putK kvs (Sum.inr z) v)) → k H2) : DptQ k (.ref a) (.str z) v H :=
  ⟨a, _, rfl, DPut.k (k := Sum.inr z) h (Nat.lt_of_le_of_lt hl (by decide)), q _ (Ch.set Ch.refl (List.mem_singleton.mpr rfl) h rfl) upd_same⟩
end
/-! ### own errors with one field -/
def spInit1 (C : Addr) (f : Str) : Sp := fun vs H Q _ => ∃ a v, vs = [.ref a, v] ∧ H a = some (exo a C none) ∧ ∀ dx, H dx = none → dx ≠ a → Q .non (upd (upd H dx (exd dx [(f, v)])) a (exo a C (some dx)))
/-- the dict of an error that is told: none, or one with fields -/
def XdOk (dd : Option Addr) (H : Hp) : Prop := dd = none ∨ ∃ d fs, dd = some d ∧ H d = some (.xd fs)
def RaQ (C : Addr) (f : Str) (E : XK) (vs : List V) (H1 : Hp) : Prop := vs.length ≤ 1000 ∧ ∀ a, H1 a = none → spInit1 C f (.ref a :: (vs ++ [])) (upd H1 a (exo a C none))
  (fun v H2 => v = .non ∧ ∃ (d : Addr) (fs : List (Str × V)), H2 a = some (exo a C (some d)) ∧ H2 d = some (exd d fs) ∧ H1 d = none ∧ E (.ref C) (some d) (upd (del H2 a) d (.xd fs))) (fun _ _ _ => False)
theorem ts_raiseI {C : Addr} {f : Str} {E : XK} {σ : L2.St} {H : Hp} {ta : TA} {D : Ends} (k : ta σ H fun vs H1 => RaQ C f E vs H1) : tRaiseI (spInit1 C f) C E ta D σ H := k
theorem ts_raiseO {C : Addr} {E : XK} {σ : L2.St} {H : Hp} {D : Ends} (k : E (.ref C) none H) : tRaiseO C E D σ H := k
theorem raq {C : Addr} {f : Str} {E : XK} {H : Hp} {v : V} (k : ∀ d H2, H d = none → Ch [] H H2 → H2 d = some (.xd [(f, v)]) → E (.ref C) (some d) H2) : RaQ C f E [v] H := by
  refine ⟨by simp, fun a na => ⟨a, v, rfl, upd_same, fun dx nx hne => ⟨rfl, dx, [(f, v)], upd_same, by rw [upd_ne hne]; exact upd_same, ?_, ?_⟩⟩⟩
  · rwa [upd_ne hne] at nx
  · have nx' : H dx = none := by rwa [upd_ne hne] at nx
    refine k dx _ nx' ⟨fun b o e _ => ?_, fun b e => ?_⟩ upd_same
    · have h1 : b ≠ dx := ne_of_none e nx'
      have h2 : b ≠ a := ne_of_none e na
      rw [upd_ne h1, del_ne h2, upd_ne h2, upd_ne h1, upd_ne h2]
      exact e
    · by_cases h1 : b = dx
      · rw [h1]; exact nx'
      · by_cases h2 : b = a
        · rw [h2]; exact na
        · rw [upd_ne h1, del_ne h2, upd_ne h2, upd_ne h1, upd_ne h2] at e
          exact e
end K9
namespace K9
open PySem PySem.Spec PyProof.Rows L2 HotX L2H
/-! isinstance of a caught error, with or without a dict of its own; hot promises. -/
section
variable {prog : Program} {w : World} {A : Around} {E : Value → Shared → Prop} {s : Shared} {K : PySem.W.Frag} {x D : Addr} {ox o : Obj}
/-- x.__class__ of an error with a dict -/
theorem class_of_err {Q : Option Value → Shared → Prop} (C : ExcC K D) (X : K.In s.heap) (I : PySem.W.InstAt s.heap x ox D (some o)) (h : Q (some (.ref D)) { s with toks := s.toks + 1 }) : wpAny (model prog w) A (getAttr? (.ref x) "__class__") Q E s := by
  have hf : PySem.W.findObj K D (some o) "__class__" = some (.bind (.builtin "getset_descriptor.__get__") (.builtin "object.__class__")) :=
    PySem.W.findObj_data (by obtain ⟨cd, hc, _⟩ := PySem.W.any_some C.hd; rw [hc]; rfl) C.ha C.hn C.ht
  obtain ⟨hp, g, d, t, os⟩ := s
  have L0 := I.type (M := model prog w)
  have own : (Value.builtin "BaseException.__getattribute__" == Value.builtin "object.__getattribute__") = false := by decide +kernel
  unfold getAttr? getAttrBy? getAttrBy
  refine wpAny_bind (wpAny_mkText (wpAny_bind (wpAny_attempt (wpAny_holding (wpAny_bind (L0.at (wpAny_bind ((PySem.W.looks_findIn (M := model prog w) X C.hg).at ?_))))))))
  show wpAny _ _ (if (onTheHeap (Value.ref D) && Value.builtin "BaseException.__getattribute__" == Value.builtin "object.__getattribute__") = true then _ else _) _ _ _
  rw [own, Bool.and_false, if_neg Bool.false_ne_true]
  unfold getAttrByItsOwn hookBefore
  refine wpAny_bind ?_
  rw [if_pos (show onTheHeap (Value.ref D) = true from rfl)]
  refine (PySem.W.looks_findIn (M := model prog w) X C.hk).at (wpAny_bind (wpAny_attempt (wpAny_holding ?_)))
  unfold callGetattribute
  rw [if_neg (show ¬ (false && onTheHeap (Value.builtin "BaseException.__getattribute__")) = true from Bool.false_ne_true)]
  unfold boundAndCalled
  rw [PySem.F.excAttr_ValueError.ga.bind (.ref x)]
  refine wpAny_bind (wpAny_pure ?_)
  show wpAny _ _ (call (.builtin "BaseException.__getattribute__") [.ref x, .str "__class__" t]) _ _ _
  refine wpAny_call (codeAny_call_builtin PySem.F.excAttr_ValueError.ga.plain PySem.F.entry_bexc_ga (@PySem.W.check_slot (model prog w) _ _ ⟨hp, g, d, t + 1, os⟩ "BaseException.__getattribute__" "BaseException" "__getattribute__" (.ref x) [.str "__class__" t] [] _ (by decide +kernel) (by decide +kernel)
    (L0.andThen (PySem.W.looks_subIn X C.hs)) (PySem.F.args_bexc_ga (.ref x) (.str "__class__" t)) ?_))
  unfold Builtin.«object.__getattribute__»
  refine wpAny_bind (wpAny_of_eq (a := ((Value.ref x : Value), [Value.str "__class__" t])) (by first | rfl | (simp only [slotArgs]; rfl)) (wpAny_bind (wpAny_pure (wpAny_bind (L0.at (wpAny_bind ((PySem.W.looks_find (M := model prog w) X I hf).at ?_)))))))
  show wpAny _ _ (holding [Value.builtin "object.__class__"] (call (.builtin "getset_descriptor.__get__") [.builtin "object.__class__", .ref x, .ref D]) >>= ret) _ _ _
  refine wpAny_bind (wpAny_holding (wpAny_call (PySem.W.class_get (s := ⟨hp, g, d, t + 1, os⟩) (ox := ox) (od := some o) X I C.hm (wpAny_pure ?_))))
  show wpAny _ _ (handedOut (.ref D)) _ _ _
  rw [PySem.W.handedOut_of (v := .ref D) rfl]
  first
    | exact wpAny_pure (wpAny_pure h)
    | exact wpAny_pure h
    | exact wpAny_pure (wpAny_bind (wpAny_pure (wpAny_pure h)))
end
/-- isinstance(e, c), e the error that the suite holds -/
def rIsX (K : PySem.W.Frag) (a : Addr) (cls : Value) (d : Option Addr) : List V → Hp → VK → Prop := fun xs H Q => ∃ (D : Addr) (c : V) (cv : Value) (b : Bool), cls = .ref D ∧ ExcC K D ∧ XdOk d H ∧ xs = [.ref a, c] ∧ (∀ u, RelV c u → u = cv) ∧ PySem.W.kitOne K (.ref D) cv = some b ∧ Q (.bl b) H
theorem call_isX {X : Cx} {a : Addr} {oe : Obj} {cls : Value} {d : Option Addr} {pn : List (Addr × Obj)} (hz : Zc cls d oe) (hf : ∃ vs, oe.data = .fields vs) : CallR (X.suite a ((a, oe) :: pn)) (.builtin "isinstance") (rIsX X.K a cls d) := by
  intro pins s σ H xs us Q I r h
  obtain ⟨D, c, cv, b, rfl, C, hx, rfl, hcv, e, q⟩ := h
  cases hx with
  | inl e0 =>
    subst e0
    exact call_isE C hz hf pins s σ H _ us Q I r ⟨c, cv, b, rfl, hcv, e, q⟩
  | inr hx =>
    obtain ⟨dd, fs, rfl, hd⟩ := hx
    cases r with
    | cons rx rr =>
      cases rr with
      | cons rt rr =>
        cases rr
        cases rx
        have ec := hcv _ rt
        subst ec
        obtain ⟨hget, _⟩ := I.pin (a, oe) (List.mem_append.mpr (.inl List.mem_cons_self))
        obtain ⟨vs, hv⟩ := hf
        have ho : ObjOk X.prog X.w H s.heap dd (.xd fs) := I.hok dd _ hd
        obtain ⟨mA, hns, hr⟩ := ho
        obtain ⟨od, ho, hl⟩ := lookIn_ns hns
        have J : PySem.W.InstAt s.heap a oe D (some od) := ⟨hget, hz.1, by unfold PySem.W.notCls; rw [hv] <;> rfl, by rw [hz.2]; exact ho⟩
        have k0 := PySem.W.handS_kitx_exc (x := a) (ox := oe) C.hg C.hk C.hs C.hd C.ha C.hn C.ht C.hm
        have kx : PySem.W.KitX X.K (.ref a) (.ref D) (fun h => PySem.W.InstAt h a oe D (some od)) := by
          refine ⟨fun _ _ _ I => I.type, fun M h X I => ?_, k0.ne, fun X I k => class_of_err C X I k⟩
          obtain ⟨cd, hc, _⟩ := PySem.W.any_some C.hd
          unfold PySem.W.clsIn at hc
          split at hc
          · rename_i c' d' cd' sl' ho'
            intro A' Q' E' s' k q
            unfold isType loadHead
            exact wpAny_bind (wpAny_loadPart (k _ _ (X _ _ ho')) (wpAny_pure q))
          · cases hc
        exact PySem.W.kia_one kx I.kIn J e (fun z => nomatch z) fun tk => ⟨.bl b, H, I.kept (t' := tk) fun _ _ z => z, rfl, q⟩
/-! ### a promise that holds while an error is handled -/
theorem mkH {P : Program} {w : World} {K : PySem.W.Frag} {mg : Str → Option Value} {base : Heap} {x qual : Str} {params : Arguments} {body : List Stmt} {scope : Scope} {f : Addr} {CX : CXT} {N ps : List Str} {k : Nat} {sp : Sp}
    (F : ∃ fd, FunD K x qual params body scope [] [] f fd) (S : FnScope N ps scope)
    (hb : ∀ (kV doc pm : Value) (an : Option Addr) (cdv ct : Value) (us : List Value), us.length = ps.length → bindArgs (PySem.W.fnOf x qual params body scope .none kV doc pm an cdv ct) ⟨us, []⟩ = pure (ps.zip us))
    (len : ∀ vs H Q E, sp vs H Q E → vs.length = ps.length)
    (hbody : ∀ (cdv : Value) (A : Around) (outer : List Env) (s : Shared) (H : Hp) (vs : List V) (Q : VK) (E : XK) (p : Addr × Obj), Hot1 A p → RoomH k (A.deeper (envOfC qual scope s.heap.objs.size f cdv)) → sp vs H Q E →
      ∃ t, PSs (cxH CX P w K mg base N qual scope f cdv A outer s H E p) body t ∧ t { nx := fun _ H' => Q .non H', rt := Q } (start N vs) H) : ∃ fd, FnH P w K mg base CX (k + 1) f fd ps sp ∧ Binds K fd ps [] := by
  obtain ⟨fd, F⟩ := F
  refine ⟨fd, ?_, F.bindsN hb⟩
  obtain ⟨oc, od, dV, kV, doc, pm, an, cdv, ct, osl, rfl, lk, hcd, _, _⟩ := F.ex
  exact fn_ofH lk hcd S len fun A outer s H vs Q E p hot hr hsp => hbody cdv A outer s H vs Q E p hot hr hsp
end K9
namespace K9
open PySem PySem.Spec PyProof.Rows L2
/-! ### words of tactics -/
local macro_rules | `(tactic| walk_at "hp") => `(tactic| (first
  | assumption | exact upd_same
  | (refine Ch.at0 (H := ?hpH) ?hpc ?hph; (case hpc => assumption); (case hph => walk_at "hp"))
  | (refine Ch.tup (M := ?hpM) (H := ?hpH) ?hpc ?hph; (case hpc => assumption); (case hph => walk_at "hp"))
  | (refine Ch.at (M := ?hpM) (H := ?hpH) ?hpc ?hph ?hpn; (case hpc => assumption); (case hph => walk_at "hp"); (case hpn => walk_at "ni"))
  | fail "hp"))
local macro_rules | `(tactic| walk_at "ni") => `(tactic| (first | exact ni0 | assumption | (refine ni1 ?nia ?nib; (case nia => walk_at "nq"); (case nib => walk_at "ni")) | fail "ni"))
local macro_rules | `(tactic| walk_at "nq") => `(tactic| (first | assumption | exact Ne.symm (by assumption) | (refine ne_of_none (H := ?nqH) (o := ?nqo) ?nqa ?nqb; (case nqb => assumption); (case nqa => walk_at "hp")) | (refine Ne.symm (ne_of_none (H := ?nqH) (o := ?nqo) ?nqa ?nqb); (case nqb => assumption); (case nqa => walk_at "hp")) | fail "nq"))
local macro_rules | `(tactic| walk_at "sq") => `(tactic| (first
  | assumption | exact SqL.of (by assumption)
  | (refine Ch.sql (M := ?sqM) (H := ?sqH) ?sqc ?sqh ?sqn; (case sqc => assumption); (case sqh => walk_at "sq"); (case sqn => walk_at "ni"))
  | fail "sq"))
local macro_rules | `(tactic| walk_at "tq") => `(tactic| (first
  | assumption | exact SqT.of (by assumption)
  | (refine Ch.sqt (M := ?tqM) (H := ?tqH) ?tqc ?tqh; (case tqc => assumption); (case tqh => walk_at "tq"))
  | fail "tq"))
local macro_rules | `(tactic| walk_at "rd1") => `(tactic| (first
  | ((with_reducible refine te_var (v := ?rdw) ?rdv ?_); (case rdv => exact rfl))
  | (with_reducible (first
  | refine te_c ?_ | refine te_op ?_ | refine te_nil ?_ | refine te_cons ?_ | refine te_cb ?_ | refine te_callR ?_ | refine te_tup ?_ | refine te_lst ?_
  | refine ts_seq ?_ | refine ts_asg ?_ | refine tg_name ?_ | refine ts_ret ?_ | refine ts_retN ?_ | refine ts_if ?_ | refine ts_drop ?_ | refine ts_next ?_ | refine tg_sub ?_
  | refine nd_nx ?_ | refine nd_rt ?_ | refine nd_bk ?_ | refine nd_ct ?_
  | refine tt_test ?_ | refine tt_b ?_ | refine tt_and ?_ | refine tt_or ?_ | refine tt_not ?_ | refine blq ?_ | refine inq ?_ | refine iteT ?_ | refine iteF ?_
  | refine te_then ?_ | refine te_if ?_ | refine te_sl ?_ | refine te_part ?_ | refine te_chain ?_ | refine te_andV ?_ | refine te_orV ?_ | refine te_notV ?_ | refine te_un ?_
  | refine te_din ?_ | refine te_dni ?_ | refine te_dgt ?_ | refine ts_dpt ?_ | refine ts_for ?_ | refine ti_rng ?_ | refine ti_rng2 ?_ | refine ti_lst ?_ | refine ti_tup ?_ | refine ti_str ?_ | refine ti_key ?_ | refine strq ?_ | refine te_lc ?_ | refine te_dc ?_ | refine tt_yes ?_
  | refine r_addI ?_ | refine r_I0 ?_ | refine r_eqI ?_ | refine r_eqS ?_ | refine r_neI ?_ | refine r_neS ?_ | refine r_U ?_ | refine r_intI ?_ | refine r_intB ?_))
  | ((with_reducible refine r_ixL (xs := ?rdx) (v := ?rdw) ?rdh ?rde ?_); (case rdh => walk_at "sq"); (case rde => exact rfl))
  | ((with_reducible refine r_ixT (xs := ?rdx) (v := ?rdw) ?rdh ?rde ?_); (case rdh => walk_at "tq"); (case rde => exact rfl))
  | ((with_reducible refine r_lenL (xs := ?rdx) ?rdh ?_); (case rdh => walk_at "sq"))
  | ((with_reducible refine r_lenT (xs := ?rdx) ?rdh ?_); (case rdh => walk_at "tq"))
  | ((with_reducible refine r_lenD (kvs := ?rdx) ?rdh ?_); (case rdh => walk_at "hp"))
  | ((with_reducible refine r_set' (xs := ?rdx) (j := ?rdj) ?rdh ?rde ?_); (case rdh => walk_at "hp"); (case rde => exact rfl); (intro rH rc rh))
  | ((with_reducible refine newT ?rdc ?_); (case rdc => (simp; done)); (intro rp rH rn rc rh))
  | ((with_reducible refine newL ?rdc ?_); (case rdc => (simp; done)); (intro rp rH rn rc rh))
  | ((with_reducible refine te_dnw ?_); (intro rp rH rn rc rh))
  | ((with_reducible refine lisq (xs := ?rdx) ?rdh ?_); (case rdh => walk_at "sq"))
  | ((with_reducible refine tupq (xs := ?rdx) ?rdh ?_); (case rdh => walk_at "tq"))
  | ((with_reducible refine rngq ?rdc ?_); (case rdc => walk_at "sd"))
  | ((with_reducible refine r_I ?rdc ?_); (case rdc => walk_at "sd"))
  | ((with_reducible refine r_mulI ?rdc ?_); (case rdc => omega))
  | fail "rd"))
local macro_rules | `(tactic| walk_at "sd") => `(tactic| (first | (constructor <;> omega) | omega | decide | (refine ⟨?_, ?_, ?_⟩ <;> decide)))
local macro_rules | `(tactic| walk_at "rd") => `(tactic| repeat (walk_at "rd1"))
local macro_rules | `(tactic| walk_at "ch") => `(tactic| (first
  | assumption | exact Ch.refl | exact Ch.nil (by assumption)
  | (refine Ch.trans (H1 := ?chm) ?cha ?chb; (case chb => (first | assumption | exact Ch.nil (by assumption) | (refine Ch.mono (M := ?chl) ?chx ?chy; (case chx => assumption); (case chy => (intro _ chz; simp at chz ⊢; simp [chz]))))); (case cha => walk_at "ch"))
  | fail "ch"))
local macro_rules | `(tactic| walk_at "nx") => `(tactic| repeat (with_reducible (first | refine ts_next ?_ | refine nd_nx ?_)))
local macro_rules | `(tactic| walk_at "dm") => `(tactic| (first | assumption | (refine Dt.mono (M := ?dmM) (H := ?dmH) ?dmc ?dmh; (case dmc => assumption); (case dmh => walk_at "dm")) | fail "dm"))
local macro_rules | `(tactic| walk_at "dt") => `(tactic| (first | exact Dt.int _ | exact Dt.str _ | exact Dt.bl _ | exact Dt.non | walk_at "dm" | (refine Dt.tup (xs := ?dtx) ?dta ?dtb; (case dta => walk_at "tq"); (case dtb => walk_at "dts")) | fail "dt"))
local macro_rules | `(tactic| walk_at "dsm") => `(tactic| (first | assumption | (refine Dts.mono (M := ?dmM) (H := ?dmH) ?dmc ?dmh; (case dmc => assumption); (case dmh => walk_at "dsm")) | fail "dsm"))
local macro_rules | `(tactic| walk_at "dts") => `(tactic| (first | exact Dts.nil | walk_at "dsm" | (refine Dts.cons ?dtsa ?dtsb; (case dtsa => walk_at "dt"); (case dtsb => walk_at "dts")) | fail "dts"))
local macro_rules | `(tactic| walk_at "it") => `(tactic| (first | refine itT (by rfl) ?_ | refine itF (by rfl) ?_ | fail "it"))
local macro_rules | `(tactic| walk_at "if") => `(tactic| with_reducible (first | refine iteF ?_ | refine iteT ?_))
local macro_rules | `(tactic| walk_at "itk") => `(tactic| (first | (refine itT ?itk ?_; (case itk => decide +kernel)) | (refine itF ?itk ?_; (case itk => decide +kernel)) | fail "itk"))
/-! Terms: words, numbers, writing. -/
def spI1 (K : PySem.W.Frag) (x f : Str) : Sp := spInit1 (He.ga K x) f
theorem pure_init {K : PySem.W.Frag} {x f : Str} {N : List Str} (hN : N.length = 2) (T : OexT K x f) (vs : List V) (H : Hp) (Q : VK) (E : XK) (h : spI1 K x f vs H Q E) : tOst K f (tVar 0) (tVar 1) { nx := fun _ H' => Q .non H', rt := Q } (L2.start N vs) H := by
  obtain ⟨a, v, rfl, e, k⟩ := h
  have hs : L2.start N [V.ref a, v] = [some (V.ref a), some v] := by
    unfold L2.start
    rw [hN] <;> rfl
  rw [hs]
  exact ⟨v, rfl, .ref a, rfl, a, _, rfl, T.oc, T.noF, .inl ⟨e, k⟩⟩
/-! ### words and numbers -/
def isWord (z : Str) : Bool := !(decide (z = PySem.Str.ofString "")) && (decide (z.length ≤ 12) && z.cps.toList.all fun c => decide (c ∈ c_LETTERS_v.cps.toList))
def isWordD : PyData → Bool
  | .str z => isWord z
  | _ => false
def spIsWord (K : PySem.W.Frag) : Sp := fun vs H Q _ => ∃ v d, vs = [v] ∧ Dt K H v d ∧ (∀ z, d = .str z → z.length ≤ 100000) ∧ Q (.bl (isWordD d)) H
theorem pure_is_word {K : PySem.W.Frag} (vs : List V) (H : Hp) (Q : VK) (E : XK) (h : spIsWord K vs H Q E) : t_is_word K { nx := fun _ H' => Q .non H', rt := Q } (L2.start N_is_word vs) H := by
  obtain ⟨v, d, rfl, hd, hz, k⟩ := h
  unfold t_is_word
  walk_at "rd"
  refine r_isStr hd ?_
  walk_at "rd"
  cases hd with
  | str z =>
    walk_at "it"
    walk_at "rd"
    refine itd (fun c => ?_) (fun c => ?_)
    · walk_at "it"
      walk_at "rd"
      have e : isWordD (.str z) = false := by simp [isWordD, isWord, c]
      rw [e] at k
      exact k
    · walk_at "rd"
      refine r_lenS (Nat.le_trans (hz z rfl) (by decide)) ?_
      walk_at "rd"
      refine itd (fun c2 => ?_) (fun c2 => ?_)
      · walk_at "rd"
        have e : isWordD (.str z) = false := by
          have : ¬ z.length ≤ 12 := by omega
          simp [isWordD, isWord, this]
        rw [e] at k
        exact k
      · walk_at "rd"
        refine forq walks_str (fun i σ H' => (∃ v, σ = [some (.str z), v]) ∧ H' = H ∧ (z.cps.toList.take i).all (fun c => decide (c ∈ c_LETTERS_v.cps.toList)) = true) ⟨⟨_, rfl⟩, rfl, rfl⟩ (fun _ _ _ _ => trivial) ?_ ?_
        · rintro i x σ H' hi ⟨ch, hc, rfl⟩ ⟨⟨v, rfl⟩, rfl, ha⟩
          walk_at "rd"
          refine .inr ⟨ch, _, rfl, rfl, ?_⟩
          walk_at "rd"
          have hget : z.cps.toList[i]? = some ch := by rw [← hc]; simp
          refine itn (fun c3 => ?_) (fun c3 => ?_)
          · walk_at "rd"
            have e : isWordD (.str z) = false := by
              have hm : ch ∈ z.cps.toList := List.mem_of_getElem? hget
              have : z.cps.toList.all (fun c => decide (c ∈ c_LETTERS_v.cps.toList)) = false := by
                rw [List.all_eq_false]
                exact ⟨ch, hm, by simp [c3]⟩
              simp only [isWordD, isWord, this, Bool.and_false]
            rw [e] at k
            exact k
          · walk_at "nx"
            refine ⟨⟨_, rfl⟩, rfl, ?_⟩
            have ht : z.cps.toList.take (i + 1) = z.cps.toList.take i ++ [ch] := by
              rw [List.take_add_one, hget] <;> rfl
            rw [ht, List.all_append, ha]
            simp only [List.all_cons, List.all_nil, decide_eq_true c3] <;> rfl
        · rintro σ H' ⟨⟨v, rfl⟩, rfl, ha⟩
          walk_at "rd"
          have e : isWordD (.str z) = true := by
            have l : z.length ≤ 12 := by omega
            have ha' : z.cps.toList.all (fun c => decide (c ∈ c_LETTERS_v.cps.toList)) = true := by
              rw [← ha, List.take_of_length_le (by simp)]
            simp only [isWordD, isWord, ha', decide_eq_false c, decide_eq_true l] <;> rfl
          rw [e] at k
          exact k
  | _ =>
    walk_at "it"
    walk_at "rd"
    exact k
def isNumD : PyData → Bool
  | .int i => decide (0 ≤ i) && decide (i ≤ 999999999)
  | _ => false
def spIsNumber (K : PySem.W.Frag) : Sp := fun vs H Q _ => ∃ v d, vs = [v] ∧ Dt K H v d ∧ isBoolD d = false ∧ Q (.bl (isNumD d)) H
theorem pure_is_number {K : PySem.W.Frag} (vs : List V) (H : Hp) (Q : VK) (E : XK) (h : spIsNumber K vs H Q E) : t_is_number K { nx := fun _ H' => Q .non H', rt := Q } (L2.start N_is_number vs) H := by
  obtain ⟨v, d, rfl, hd, hb, k⟩ := h
  unfold t_is_number
  walk_at "rd"
  refine r_isInt hd ?_
  walk_at "rd"
  cases hd with
  | int i =>
    walk_at "it"
    walk_at "rd"
    refine itd (fun c => ?_) (fun c => ?_)
    · walk_at "rd"
      have e : isNumD (.int i) = decide (i ≤ 999999999) := by simp [isNumD, c]
      rw [e] at k
      exact k
    · walk_at "rd"
      have e : isNumD (.int i) = false := by simp [isNumD, c]
      rw [e] at k
      exact k
  | bl b => cases hb
  | _ =>
    walk_at "it"
    walk_at "rd"
    exact k
/-! ### writing -/
mutual
def wOk : PyData → Nat → Bool
  | .int i, _ => decide (0 ≤ i) && decide (i ≤ 999999999)
  | .str z, _ => isWord z
  | .tuple _, 0 => false
  | .tuple ds, n + 1 => wOks ds n
  | .none, _ => false
  | .bool _, _ => false
  | .list _, _ => false
  | .dict _, _ => false
def wOks : List PyData → Nat → Bool
  | [], _ => true
  | d :: ds, n => wOk d n && wOks ds n
end
theorem wOks_get : ∀ {ds : List PyData} {n : Nat}, wOks ds n = true ↔ ∀ (i : Nat) d, ds[i]? = some d → wOk d n = true
  | [], n => by simp [wOks]
  | x :: r, n => by
    have ih := wOks_get (ds := r) (n := n)
    show (wOk x n && wOks r n) = true ↔ _
    rw [Bool.and_eq_true, ih]
    constructor
    · rintro ⟨h1, h2⟩ i d h
      cases i with
      | zero => simp at h; subst h; exact h1
      | succ i => exact h2 i d (by simpa using h)
    · intro h
      exact ⟨h 0 x rfl, fun i d e => h (i + 1) d (by simpa using e)⟩
def spWP (K : PySem.W.Frag) (m : Nat) : Sp := fun vs H Q E => ∃ v d pv xs, vs = [v, .ref pv] ∧ Dt K H v d ∧ SqT K H pv xs ∧ xs.length ≤ 60 ∧ plD d = true ∧ szD d ≤ 20000 ∧ d.depth ≤ m ∧
  (wOk d (30 - xs.length) = true → ∀ z H', z.length + 2 ≤ 16 * szD d → Ch [] H H' → Q (.str z) H') ∧ (wOk d (30 - xs.length) = false → ∀ dd H', Ch [] H H' → XdOk dd H' → E (.ref (He.ga K "InvalidTerm")) dd H')
theorem pl_str {z : Str} (h : plD (.str z) = true) : z.length ≤ 1000 := of_decide_eq_true (Bool.and_eq_true_iff.mp (show (decide (z.length ≤ 1000) && PyData.strOk z) = true from h)).1
theorem pl_tup {ds : List PyData} (h : plD (.tuple ds) = true) : ds.length ≤ 1000 ∧ plDs ds = true := by
  obtain ⟨a, b⟩ := Bool.and_eq_true_iff.mp (show (decide (ds.length ≤ 1000) && plDs ds) = true from h)
  exact ⟨of_decide_eq_true a, b⟩
theorem pl_small {d : PyData} (h : plD d = true) : ∀ z, d = .str z → z.length ≤ 100000 := fun z e => by
  subst e
  exact Nat.le_trans (pl_str h) (by decide)
theorem pl_nobool {d : PyData} (h : plD d = true) : isBoolD d = false := by
  cases d <;> first | rfl | (simp [plD] at h)
theorem te_join {K : PySem.W.Frag} {a : Str} {te : TE} {σ : L2.St} {H : Hp} {Q : VK} (k : te σ H fun y H2 => rJoin K (.str a) [y] H2 Q) : tJoin K (tC (.str a)) te σ H Q := ⟨⟨a, rfl⟩, k⟩
theorem r_join {K : PySem.W.Frag} {a : Str} {p : Addr} {ys : List Str} {H : Hp} {Q : VK} (h : SqL K H p (ys.map V.str)) (hl : (ys.map (·.length)).sum + ys.length * a.length ≤ 16777216) (k : ∀ z : Str, z.length ≤ (ys.map (·.length)).sum + ys.length * a.length → z = Txt.join a ys → Q (.str z) H) : rJoin K (.str a) [.ref p] H Q :=
  ⟨a, p, ys, rfl, rfl, .inl h, hl, k _ (by
    rw [TL.join_eq]
    clear hl h k
    have go : ∀ ys : List Str, (Str.join a ys).length ≤ (ys.map (·.length)).sum + ys.length * a.length := by
      intro ys
      have e : ∀ z : Str, z.length = (TL.tl z).length := fun z => by show z.cps.size = z.cps.toList.length; simp
      rw [e, TL.tl_join]
      induction ys with
      | nil => simp [TL.joinL]
      | cons x r ih =>
        cases r with
        | nil =>
          show (TL.tl x).length ≤ _
          rw [← e]
          simp
        | cons y r =>
          show (TL.tl x ++ (TL.tl a ++ TL.joinL (TL.tl a) ((y :: r).map TL.tl))).length ≤ _
          rw [List.length_append, List.length_append, ← e, ← e]
          simp only [List.map_cons, List.sum_cons, List.length_cons] at ih ⊢
          have q : (r.length + 1 + 1) * a.length = (r.length + 1) * a.length + a.length := by rw [Nat.add_mul, Nat.one_mul]
          omega
    exact go ys) rfl⟩
theorem r_app {H : Hp} {Q : VK} {p : Addr} {xs : List V} {y : V} (h : H p = some (.lst xs)) (hl : xs.length ≤ 100000) (k : ∀ H2, Ch [p] H H2 → H2 p = some (.lst (xs ++ [y])) → Q .non H2) : rAppend (.ref p) [y] H Q :=
  ⟨p, xs, y, rfl, rfl, h, Nat.lt_of_le_of_lt hl (by decide), k _ (Ch.set Ch.refl (List.mem_singleton.mpr rfl) h rfl) upd_same⟩
def ApQ (K : PySem.W.Frag) (t : TA) (σ : L2.St) (Q : VK) (x : V) (H : Hp) : Prop := tyV K "list" x H ∧ t σ H fun xs H2 => rAppend x xs H2 Q
theorem te_app {K : PySem.W.Frag} {to : TE} {t : TA} {σ : L2.St} {H : Hp} {Q : VK} (k : to σ H fun x H1 => ApQ K t σ Q x H1) : tBM K "list" rAppend to t σ H Q := k
theorem apq {K : PySem.W.Frag} {t : TA} {σ : L2.St} {H : Hp} {Q : VK} {p : Addr} {xs : List V} (h : H p = some (.lst xs)) (k : t σ H fun ys H2 => rAppend (.ref p) ys H2 Q) : ApQ K t σ Q (.ref p) H := ⟨.inl ⟨rfl, _, SqL.of h⟩, k⟩
theorem Str.app_len (a b : Str) : (a ++ b).length = a.length + b.length := by
  show (a.cps ++ b.cps).size = _
  simp [Str.length]
theorem pure_write_part {K : PySem.W.Frag} (m : Nat) (vs : List V) (H : Hp) (Q : VK) (E : XK) (h : spWP K m vs H Q E) : t_write_part K (spIsWord K) (spIsNumber K) (spI1 K "InvalidTerm" "path") (spLt (spWP K) m) E { nx := fun _ H' => Q .non H', rt := Q } (L2.start N_write_part vs) H := by
  obtain ⟨v, d, pv, xs, rfl, hd, hp, hl, pl, sz, dm, kS, kF⟩ := h
  unfold t_write_part
  walk_at "rd"
  refine ⟨v, d, rfl, hd, pl_small pl, ?_⟩
  walk_at "rd"
  refine itb (fun c => ?_) (fun c => ?_)
  · walk_at "rd"
    cases hd with
    | str z =>
      have c' : isWord z = true := c
      have hz12 : z.length ≤ 12 := by
        simp [isWord] at c'
        exact c'.2.1
      refine kS (by simpa [wOk, isWordD] using c) z H ?_ Ch.refl
      show z.length + 2 ≤ 16 * 1
      omega
    | _ => cases c
  walk_at "nx"
  walk_at "rd"
  refine ⟨v, d, rfl, hd, pl_nobool pl, ?_⟩
  walk_at "rd"
  refine itb (fun c2 => ?_) (fun c2 => ?_)
  · walk_at "rd"
    cases hd with
    | int i =>
      have c2' : 0 ≤ i ∧ i ≤ 999999999 := by simpa [isNumD] using c2
      refine ⟨i, rfl, ?_, ?_⟩
      · have h30 : i.natAbs < 2 ^ 30 := Nat.lt_of_le_of_lt (show i.natAbs ≤ 999999999 by omega) (by decide)
        by_cases z : i.natAbs = 0
        · rw [z]; decide
        · exact Nat.lt_trans ((Nat.log2_lt z).mpr h30) (by decide)
      · walk_at "rd"
        refine kS c2 _ H ?_ Ch.refl
        show (PySem.Str.ofString (toString i)).length + 2 ≤ 16 * 1
        have := PyProof.Rows.toString_length_le c2'.1 (k := 9) (by decide) (Int.lt_of_le_of_lt c2'.2 (by decide))
        omega
    | _ => cases c2
  walk_at "nx"
  walk_at "rd"
  refine r_isTup hd ?_
  walk_at "rd"
  have bad : ∀ D, wOk d (30 - xs.length) = false → tRaiseI (spI1 K "InvalidTerm" "path") (He.ga K "InvalidTerm") E (tCons (tVar 1) tNil) D (L2.start N_write_part [v, .ref pv]) H := fun D hb => by
    refine ts_raiseI ?_
    walk_at "rd"
    exact raq fun dd H2 _ c e => kF hb _ H2 c (.inr ⟨_, _, rfl, e⟩)
  cases hd with
  | str z =>
    walk_at "it"
    walk_at "rd"
    exact bad _ (by simpa [wOk, isWordD] using c)
  | int i =>
    walk_at "it"
    walk_at "rd"
    exact bad _ (by
      have c2' : isNumD (.int i) = false := c2
      show (decide (0 ≤ i) && decide (i ≤ 999999999)) = false
      exact c2')
  | non => simp [plD] at pl
  | bl b => simp [plD] at pl
  | @tup a ws ds hq hs =>
    obtain ⟨pl1, pl2⟩ := pl_tup pl
    have hln := hs.len
    walk_at "it"
    walk_at "rd"
    refine itd (fun c3 => ?_) (fun c3 => ?_)
    · walk_at "rd"
      refine bad _ ?_
      rw [show 30 - xs.length = 0 by omega] <;> rfl
    · walk_at "rd"
      rename_i pt H1 n1 c1 e1
      have hq1 := c1.sqt hq
      have hn : 30 - xs.length = (30 - (xs.length + 1)) + 1 := by omega
      refine forq walks_rng (fun i σ H' => (∃ v, σ = [some (.ref a), some (.ref pv), some (.ref pt), v]) ∧ Ch [] H H' ∧ (∃ zs : List Str, H' pt = some (.lst (zs.map V.str)) ∧ zs.length = i ∧ (zs.map (·.length)).sum + 2 * i ≤ 16 * szDs (ds.take i)) ∧ (∀ (j : Nat) d, j < i → ds[j]? = some d → wOk d (30 - (xs.length + 1)) = true)) ?_ (fun _ _ _ _ => trivial) ?_ ?_
      · exact ⟨⟨_, rfl⟩, c1, ⟨[], e1, rfl, Nat.zero_le _⟩, fun j d z => absurd z (Nat.not_lt_zero j)⟩
      · rintro i x σ H2 hi rfl ⟨⟨v0, rfl⟩, c2, ⟨zs, ez, lz, bz⟩, ok⟩
        have hi' : i < ds.length := by rw [hln] at hi; simpa using hi
        have hi2 : i < ws.length := by omega
        obtain ⟨di, hdi, hDi⟩ := (hs.mono c2).get (i := i) (List.getElem?_eq_getElem hi2)
        walk_at "rd"
        refine te_app ?_
        walk_at "rd"
        refine apq ez ?_
        walk_at "rd"
        refine r_ixT (c2.sqt hq) (v := ws[i]) (by
          rw [Int.zero_add]
          exact atI_nat (List.getElem?_eq_getElem hi2)) ?_
        walk_at "rd"
        rename_i pk H3 n3 c3' e3
        refine r_addT (c3'.sqt (c2.sqt hp)) (SqT.of e3) (by simp; omega) fun pq H4 c4 q4 => ?_
        walk_at "rd"
        have bdi := szDs_get hdi
        have tdi := szDs_take hdi
        have szt : szDs ds < 20000 := by
          have : 1 + szDs ds ≤ 20000 := sz
          omega
        have len1 : (xs ++ [V.int (0 + (i : Int))]).length = xs.length + 1 := by simp
        refine ⟨dm_pos dm, ws[i], di, pq, _, rfl, (hDi.mono c3').mono c4, q4, by rw [len1]; omega, plDs_get pl2 hdi, by omega, ?_, fun hok z H5 hz c5 => ?_, fun hbad dd H5 c5 x5 => ?_⟩
        · have := dpDs_get hdi
          have dm' : PyData.depthAll ds + 1 ≤ m := dm
          omega
        · rw [len1] at hok
          have c25 : Ch [] H2 H5 := (c3'.trans c4).trans c5
          have ez5 : H5 pt = some (.lst (zs.map V.str)) := c25.at0 ez
          walk_at "rd"
          refine r_app ez5 (by rw [List.length_map, lz]; omega) fun H6 c6 e6 => ?_
          walk_at "rd"
          refine ⟨⟨_, rfl⟩, Ch.fresh1 (c2.trans c25) c6 n1, ⟨zs ++ [z], by rw [e6, List.map_append] <;> rfl, by simp [lz], ?_⟩, fun j d hj hd => ?_⟩
          · rw [List.map_append, List.sum_append, tdi]
            simp only [List.map_cons, List.map_nil, List.sum_cons, List.sum_nil]
            omega
          · by_cases q : j = i
            · subst q
              rw [hdi] at hd
              cases hd
              exact hok
            · exact ok j d (by omega) hd
        · rw [len1] at hbad
          refine kF ?_ dd H5 (((c2.trans c3').trans c4).trans c5) x5
          rw [hn]
          show wOks ds _ = false
          cases q : wOks ds (30 - (xs.length + 1)) with
          | false => rfl
          | true =>
            rw [wOks_get.mp q i di hdi] at hbad
            cases hbad
      · rintro σ H2 ⟨⟨v0, rfl⟩, c2, ⟨zs, ez, lz, bz⟩, ok⟩
        have okk : wOk (.tuple ds) (30 - xs.length) = true := by
          rw [hn]
          refine wOks_get.mpr fun j d hd => ok j d ?_ hd
          have := (List.getElem?_eq_some_iff.mp hd).1
          rw [hln]
          simpa using this
        have lz' : zs.length = ds.length := by rw [lz, hln]; simp
        rw [hln, show (Int.toNat (ds.length : Int)) = ds.length by simp, List.take_of_length_le (Nat.le_refl _)] at bz
        have sz' : 1 + szDs ds ≤ 20000 := sz
        have := szDs_len ds
        walk_at "rd"
        refine te_join ?_
        walk_at "rd"
        have l1 : (PySem.Str.ofString " ").length = 1 := by decide +kernel
        have l2 : (PySem.Str.ofString "(").length = 1 := by decide +kernel
        have l3 : (PySem.Str.ofString ")").length = 1 := by decide +kernel
        refine r_join (SqL.of ez) (by rw [l1]; omega) fun z hz _ => ?_
        rw [l1] at hz
        walk_at "rd"
        refine r_addS (by rw [l2]; omega) ?_
        walk_at "rd"
        refine r_addS (by rw [Str.app_len, l2, l3]; omega) ?_
        walk_at "rd"
        refine kS okk _ H2 ?_ c2
        rw [Str.app_len, Str.app_len, l2, l3]
        show _ ≤ 16 * (1 + szDs ds)
        omega
def spWT (K : PySem.W.Frag) (m : Nat) : Sp := fun vs H Q E => ∃ v d, vs = [v] ∧ Dt K H v d ∧ plD d = true ∧ szD d ≤ 20000 ∧ d.depth ≤ m ∧
  (wOk d 30 = true → ∀ z H', Ch [] H H' → Q (.str z) H') ∧ (wOk d 30 = false → ∀ dd H', Ch [] H H' → XdOk dd H' → E (.ref (He.ga K "InvalidTerm")) dd H')
theorem pure_write_term {K : PySem.W.Frag} (m : Nat) (vs : List V) (H : Hp) (Q : VK) (E : XK) (h : spWT K m vs H Q E) : t_write_term K (spWP K m) E { nx := fun _ H' => Q .non H', rt := Q } (L2.start N_write_term vs) H := by
  obtain ⟨v, d, rfl, hd, pl, sz, dm, kS, kF⟩ := h
  unfold t_write_term
  walk_at "rd"
  rename_i pt H1 n1 c1 e1
  refine ⟨v, d, pt, [], rfl, hd.mono c1, SqT.of e1, by simp, pl, sz, dm, fun ok z H2 _ c2 => ?_, fun nok dd H2 c2 x2 => kF nok dd H2 (c1.trans c2) x2⟩
  walk_at "rd"
  exact kS ok z H2 (c1.trans c2)
/-! ### uses, nesting -/
def isUseD : PyData → Bool
  | .tuple [.str k, .str x] => (decide (k = PySem.Str.ofString "aim") || decide (k = PySem.Str.ofString "tree")) && isWord x
  | _ => false
/-- the pairs have a text in front -/
def fl2 : PyData → Bool
  | .tuple [.tuple _, _] => false
  | _ => true
def spIsUse (K : PySem.W.Frag) : Sp := fun vs H Q _ => ∃ v d, vs = [v] ∧ Dt K H v d ∧ plD d = true ∧ fl2 d = true ∧ Q (.bl (isUseD d)) H
/-! Uses, nesting, renaming of uses. -/
theorem inV_kinds (k : Str) : inV (.str k) [.str "aim", .str "tree"] = (decide (k = PySem.Str.ofString "aim") || decide (k = PySem.Str.ofString "tree")) := by
  have e : ∀ a b : Str, (a == b) = decide (b = a) := fun a b => by
    by_cases h : b = a
    · subst h; simp
    · have h2 : ¬ a = b := fun z => h z.symm
      simp [h, h2]
  simp only [inV, List.any_cons, List.any_nil, eqV, Bool.or_false, e]
theorem r_inK {K : PySem.W.Frag} {mg : Str → Option Value} (T : TT K mg) {k : Str} {H : Hp} {Q : VK} (q : Q (.bl (decide (k = PySem.Str.ofString "aim") || decide (k = PySem.Str.ofString "tree"))) H) : rInG K (.str k) (.ref (He.ga K "KINDS")) H Q :=
  .inl ⟨_, _, rfl, .inr (tp_KINDS T H), rfl, rfl, by
    show Q (.bl (inV (.str k) [.str "aim", .str "tree"])) H
    rw [inV_kinds]
    exact q⟩
theorem two_of {α : Type} {xs : List α} (h : xs.length = 2) : ∃ a b, xs = [a, b] := by
  match xs, h with
  | [a, b], _ => exact ⟨a, b, rfl⟩
theorem use_two {d0 d1 : PyData} : isUseD (.tuple [d0, d1]) = (match d0 with
    | .str k => (decide (k = PySem.Str.ofString "aim") || decide (k = PySem.Str.ofString "tree")) && isWordD d1
    | _ => false) := by
  cases d0 with
  | str k => cases d1 <;> simp [isUseD, isWordD]
  | _ => rfl
theorem use_not {ds : List PyData} (h : ds.length ≠ 2) : isUseD (.tuple ds) = false := by
  match ds, h with
  | [], _ => rfl
  | [_], _ => simp [isUseD]
  | [_, _], h => exact absurd rfl h
  | _ :: _ :: _ :: _, _ => simp [isUseD]
theorem pure_is_use {K : PySem.W.Frag} {mg : Str → Option Value} (T : TT K mg) (vs : List V) (H : Hp) (Q : VK) (E : XK) (h : spIsUse K vs H Q E) : t_is_use K (spIsWord K) { nx := fun _ H' => Q .non H', rt := Q } (L2.start N_is_use vs) H := by
  obtain ⟨v, d, rfl, hd, pl, f2, k⟩ := h
  unfold t_is_use
  walk_at "rd"
  refine r_isTup hd ?_
  walk_at "rd"
  cases hd with
  | @tup a ws ds hq hs =>
    have hln := hs.len
    walk_at "it"
    walk_at "rd"
    refine itd (fun c => ?_) (fun c => ?_)
    · obtain ⟨x, y, rfl⟩ := two_of (xs := ws) (by omega)
      obtain ⟨d0, d1, rfl⟩ := two_of (xs := ds) (by omega)
      obtain ⟨_, pls⟩ := pl_tup pl
      have pl0 : plD d0 = true := plDs_get (i := 0) pls rfl
      have pl1 : plD d1 = true := plDs_get (i := 1) pls rfl
      rw [use_two] at k
      obtain ⟨h0, h1⟩ : Dt K H x d0 ∧ Dt K H y d1 := by
        cases hs with
        | cons h0 h => cases h with
          | cons h1 _ => exact ⟨h0, h1⟩
      walk_at "rd"
      cases h0 with
      | str kk =>
        refine r_inK T ?_
        walk_at "rd"
        refine itb (fun c2 => ?_) (fun c2 => ?_)
        · walk_at "rd"
          refine ⟨y, d1, rfl, h1, pl_small pl1, ?_⟩
          walk_at "rd"
          dsimp only at k
          rw [c2, Bool.true_and] at k
          exact k
        · walk_at "rd"
          dsimp only at k
          rw [c2, Bool.false_and] at k
          exact k
      | int i =>
        refine .inl ⟨_, _, rfl, .inr (tp_KINDS T H), rfl, rfl, ?_⟩
        refine blq ?_
        refine itF rfl ?_
        walk_at "rd"
        exact k
      | tup _ _ => cases f2
      | non => cases pl0
      | bl b => cases pl0
    · walk_at "rd"
      rw [use_not (by omega)] at k
      exact k
  | _ =>
    walk_at "it"
    walk_at "rd"
    exact k
/-! every pair in it has a text in front -/
mutual
def flD : PyData → Bool
  | .tuple ds => fl2 (.tuple ds) && flDs ds
  | .int _ => true
  | .str _ => true
  | .none => true
  | .bool _ => true
  | .list _ => true
  | .dict _ => true
def flDs : List PyData → Bool
  | [] => true
  | d :: ds => flD d && flDs ds
end
theorem flDs_get : ∀ {ds : List PyData} {i : Nat} {d : PyData}, flDs ds = true → ds[i]? = some d → flD d = true
  | [], i, d, _, h => by simp at h
  | x :: r, 0, d, h, e => by
    have e' : x = d := by simpa using e
    subst e'
    exact (Bool.and_eq_true_iff.mp (show (flD x && flDs r) = true from h)).1
  | x :: r, i + 1, d, h, e => flDs_get (i := i) (Bool.and_eq_true_iff.mp (show (flD x && flDs r) = true from h)).2 (by simpa using e)
theorem fl_2 {d : PyData} (h : flD d = true) : fl2 d = true := by
  cases d with
  | tuple ds => exact (Bool.and_eq_true_iff.mp (show (fl2 (.tuple ds) && flDs ds) = true from h)).1
  | _ => rfl
/-- nesting(term, an empty dict): the depth -/
def spNest (K : PySem.W.Frag) (m : Nat) : Sp := fun vs H Q _ => ∃ v d p, vs = [v, .ref p] ∧ Dt K H v d ∧ H p = some (.dK []) ∧ plD d = true ∧ flD d = true ∧ d.depth ≤ m ∧ ∀ H', Ch [] H H' → Q (.int (d.depth : Int)) H'
theorem max_of {K : PySem.W.Frag} {p : Addr} {ns : List Int} {H : Hp} {Q : VK} (h : SqL K H p (ns.map V.int)) (hn : 0 < ns.length) (k : ∀ m, m ∈ ns → (∀ y, y ∈ ns → y ≤ m) → Q (.int m) H) : rMax K [.ref p] H Q := ⟨p, ns, rfl, h, hn, k⟩
theorem depth_all : ∀ {ds : List PyData} {m : Int}, m ∈ (0 :: ds.map fun d => (d.depth : Int)) → (∀ y, y ∈ (0 :: ds.map fun d => (d.depth : Int)) → y ≤ m) → m = (PyData.depthAll ds : Int)
  | [], m, h, _ => by simpa [PyData.depthAll] using h
  | d :: r, m, h, g => by
    show m = ((max d.depth (PyData.depthAll r) : Nat) : Int)
    have ge : ∀ (ds : List PyData) (e : PyData), e ∈ ds → e.depth ≤ PyData.depthAll ds := fun ds e he => by
      obtain ⟨i, hi⟩ := List.mem_iff_getElem?.mp he
      exact dpDs_get hi
    have ex : ∀ ds : List PyData, PyData.depthAll ds = 0 ∨ ∃ e ∈ ds, e.depth = PyData.depthAll ds := by
      intro ds
      induction ds with
      | nil => exact .inl rfl
      | cons x s ih =>
        show max x.depth (PyData.depthAll s) = 0 ∨ ∃ e ∈ x :: s, e.depth = max x.depth (PyData.depthAll s)
        by_cases q : PyData.depthAll s ≤ x.depth
        · exact .inr ⟨x, List.mem_cons_self, (Nat.max_eq_left q).symm⟩
        · rw [Nat.max_eq_right (Nat.le_of_not_le q)]
          rcases ih with h | ⟨e, he, hh⟩
          · omega
          · exact .inr ⟨e, List.mem_cons_of_mem _ he, hh⟩
    have up : m ≤ (PyData.depthAll (d :: r) : Int) := by
      rcases List.mem_cons.mp h with h | h
      · omega
      · obtain ⟨e, he, rfl⟩ := List.mem_map.mp h
        exact_mod_cast ge _ e he
    have lo : (PyData.depthAll (d :: r) : Int) ≤ m := by
      rcases ex (d :: r) with h | ⟨e, he, hh⟩
      · rw [h]; exact g 0 List.mem_cons_self
      · rw [← hh]; exact g _ (List.mem_cons_of_mem _ (List.mem_map.mpr ⟨e, he, rfl⟩))
    exact Int.le_antisymm up lo
theorem pure_nesting {K : PySem.W.Frag} (m : Nat) (vs : List V) (H : Hp) (Q : VK) (E : XK) (h : spNest K m vs H Q E) : t_nesting K (spIsUse K) (spLt (spNest K) m) { nx := fun _ H' => Q .non H', rt := Q } (L2.start N_nesting vs) H := by
  obtain ⟨v, d, p, rfl, hd, hp, pl, fl, dm, k⟩ := h
  unfold t_nesting
  walk_at "rd"
  refine r_isTup hd ?_
  walk_at "rd"
  have hd' := hd
  cases hd with
  | @tup a ws ds hq hs =>
    walk_at "it"
    walk_at "nx"
    walk_at "rd"
    refine ⟨_, _, rfl, hd', pl, fl_2 fl, ?_⟩
    walk_at "rd"
    have main : (tRet (tOp (rAddG K) (tC (.int 1)) (tCB (rMax K) (tCons (tOp (rAddG K) (tLst (tCons (tC (.int 0)) tNil)) (tLc (iTup K (tVar 0)) (gName 2) tYes (tCallR (spLt (spNest K) m) (fun _ => E0) (tCons (tVar 2) (tCons (tVar 1) tNil))) [2])) tNil)))) { nx := fun _ H' => Q .non H', rt := Q } [some (.ref a), some (.ref p), none] H := by
      walk_at "rd"
      rename_i l0 H1 n1 c1 e1
      obtain ⟨pl1, pl2⟩ := pl_tup pl
      have fls : flDs ds = true := (Bool.and_eq_true_iff.mp (show (fl2 (.tuple ds) && flDs ds) = true from fl)).2
      refine lc_dat (K := K) (M := []) walks_tup (by rw [hs.len]; omega) (fun i e => ∃ d, ds[i]? = some d ∧ e = .int (d.depth : Int)) (fun H' c => (c1.trans c).sqt hq) ?_ (fun D _ => by simp) ?_
      · intro i x H' W hi hx c hW
        obtain ⟨di, hdi, hDi⟩ := (hs.mono (c1.trans c)).get hx
        walk_at "rd"
        refine ⟨dm_pos dm, x, di, p, rfl, hDi, (c1.trans c).at0 hp, plDs_get pl2 hdi, flDs_get fls hdi, ?_, fun H2 c2 => ?_⟩
        · have := dpDs_get hdi
          have dm' : PyData.depthAll ds + 1 ≤ m := dm
          omega
        · exact hW _ H2 _ (.int _) ⟨di, hdi, rfl⟩ c2
      · intro D' ys es H2 nD e2 h2 l2 hP c
        have ee : es = ds.map fun d => PyData.int (d.depth : Int) := map_of (by rw [l2, hs.len]) fun i x y hx hy => by
          obtain ⟨d, h1, h3⟩ := hP i y hy
          rw [hx] at h1
          cases h1
          exact h3
        subst ee
        have ey : ys = (ds.map fun d => (d.depth : Int)).map V.int := by
          clear hP l2 e2 c k
          have go : ∀ {ys : List V} {ds : List PyData}, Dts K H2 ys (ds.map fun d => PyData.int (d.depth : Int)) → ys = (ds.map fun d => (d.depth : Int)).map V.int := by
            intro ys ds h
            induction ds generalizing ys with
            | nil => cases h; rfl
            | cons x r ih =>
              cases h with
              | cons ha hb =>
                cases ha
                rw [ih hb] <;> rfl
          exact go h2
        subst ey
        walk_at "rd"
        refine r_addL (c.at0 e1) e2 (by simp only [List.length_map, List.length_cons, List.length_nil]; omega) fun l H3 n3 c3 e3 => ?_
        walk_at "rd"
        have e3' : H3 l = some (.lst ((0 :: ds.map fun d => (d.depth : Int)).map V.int)) := by rw [e3, List.map_cons, List.singleton_append]
        refine max_of (SqL.of e3') (Nat.succ_pos _) fun mx hm hg => ?_
        walk_at "rd"
        have := depth_all hm hg
        subst this
        have z := k H3 ((c1.trans c).trans c3)
        have e : (1 : Int) + (PyData.depthAll ds : Int) = ((PyData.tuple ds).depth : Int) := by
          show _ = ((PyData.depthAll ds + 1 : Nat) : Int)
          omega
        rw [e]
        exact z
    refine itb (fun c => ?_) (fun c => ?_)
    · have l2 : ds.length = 2 := Decidable.byContradiction fun q => by rw [use_not q] at c; cases c
      have hln := hs.len
      obtain ⟨d0, d1, rfl⟩ := two_of l2
      obtain ⟨w0, w1, rfl⟩ := two_of (xs := ws) (by omega)
      rw [use_two] at c
      obtain ⟨h0, h1⟩ : Dt K H w0 d0 ∧ Dt K H w1 d1 := by
        cases hs with
        | cons h0 h => cases h with
          | cons h1 _ => exact ⟨h0, h1⟩
      cases h1 with
      | str x1 =>
        walk_at "rd"
        refine dinq (.inl hp) ?_
        walk_at "rd"
        refine itF rfl ?_
        walk_at "nx"
        exact main
      | _ => cases h0 <;> first | (cases c; done) | (simp [isWordD] at c)
    · walk_at "if"
      walk_at "nx"
      exact main
  | _ =>
    walk_at "it"
    walk_at "rd"
    exact k H Ch.refl
/-! A use renamed; the law's comparison. -/
def isU (u1 u2 : Str) : List PyData → Bool
  | [.str a, .str b] => decide (a = u1) && decide (b = u2)
  | _ => false
mutual
def renD (u1 u2 n : Str) : PyData → PyData
  | .tuple ds => if isU u1 u2 ds then .tuple [.str u1, .str n] else .tuple (renDs u1 u2 n ds)
  | .int i => .int i
  | .str z => .str z
  | .none => .none
  | .bool b => .bool b
  | .list ds => .list ds
  | .dict ds => .dict ds
def renDs (u1 u2 n : Str) : List PyData → List PyData
  | [] => []
  | d :: ds => renD u1 u2 n d :: renDs u1 u2 n ds
end
theorem renDs_map (u1 u2 n : Str) : ∀ ds : List PyData, renDs u1 u2 n ds = ds.map (renD u1 u2 n)
  | [] => rfl
  | d :: ds => by
    show renD u1 u2 n d :: renDs u1 u2 n ds = _
    rw [renDs_map u1 u2 n ds] <;> rfl
theorem isU_iff {u1 u2 : Str} {ds : List PyData} : isU u1 u2 ds = true ↔ ds = [.str u1, .str u2] := by
  constructor
  · intro h
    match ds, h with
    | [.str a, .str b], h =>
      have h' : (decide (a = u1) && decide (b = u2)) = true := h
      simp at h'
      rw [h'.1, h'.2]
  · rintro rfl
    simp [isU]
theorem ren_no {u1 u2 n : Str} {ds : List PyData} (h : ds ≠ [.str u1, .str u2]) : renD u1 u2 n (.tuple ds) = .tuple (ds.map (renD u1 u2 n)) := by
  have e : isU u1 u2 ds = false := by
    cases q : isU u1 u2 ds with
    | false => rfl
    | true => exact absurd (isU_iff.mp q) h
  show (if isU u1 u2 ds then _ else PyData.tuple (renDs u1 u2 n ds)) = _
  rw [e, renDs_map] <;> rfl
theorem ren_yes {u1 u2 n : Str} : renD u1 u2 n (.tuple [.str u1, .str u2]) = .tuple [.str u1, .str n] := by
  have e : isU u1 u2 [.str u1, .str u2] = true := isU_iff.mpr rfl
  show (if isU u1 u2 [.str u1, .str u2] then PyData.tuple [.str u1, .str n] else _) = _
  rw [if_pos e]
def spRen (K : PySem.W.Frag) (m : Nat) : Sp := fun vs H Q _ => ∃ v d u u1 u2 n, vs = [v, .ref u, .str n] ∧ Dt K H v d ∧ SqT K H u [.str u1, .str u2] ∧ plD (.str u1) = true ∧ plD (.str u2) = true ∧ plD d = true ∧ d.depth ≤ m ∧ d.depth ≤ 60 ∧
  ∀ v' H', Dt K H' v' (renD u1 u2 n d) → Ch [] H H' → Q v' H'
theorem pl_pair {u1 u2 : Str} (h1 : plD (.str u1) = true) (h2 : plD (.str u2) = true) : plD (.tuple [.str u1, .str u2]) = true := by
  show (decide ([PyData.str u1, .str u2].length ≤ 1000) && (plD (.str u1) && (plD (.str u2) && true))) = true
  rw [h1, h2] <;> rfl
/-- the tail of both: the parts renamed -/
theorem ren_tail {K : PySem.W.Frag} {m : Nat} {a u : Addr} {u1 u2 n : Str} {ws : List V} {ds : List PyData} {H : Hp} {Q : VK} {sp : Sp} (hsp : sp = spLt (spRen K) m) (hq : SqT K H a ws) (hs : Dts K H ws ds) (hu : SqT K H u [.str u1, .str u2]) (p1 : plD (.str u1) = true) (p2 : plD (.str u2) = true)
    (pl : plD (.tuple ds) = true) (dm : (PyData.tuple ds).depth ≤ m) (d60 : (PyData.tuple ds).depth ≤ 60) (k : ∀ v' H', Dt K H' v' (.tuple (ds.map (renD u1 u2 n))) → Ch [] H H' → Q v' H') :
    (tRet (tThen (tLc (iTup K (tVar 0)) (gName 3) tYes (tCallR sp (fun _ => E0) (tCons (tVar 3) (tCons (tVar 1) (tCons (tVar 2) tNil)))) [3]) (kTup K))) { nx := fun _ H' => Q .non H', rt := Q } [some (.ref a), some (.ref u), some (.str n), none] H := by
  subst hsp
  walk_at "rd"
  obtain ⟨pl1, pl2⟩ := pl_tup pl
  refine lc_dat (K := K) (M := []) walks_tup (by rw [hs.len]; omega) (fun i e => ∃ d, ds[i]? = some d ∧ e = renD u1 u2 n d) (fun H' c => c.sqt hq) ?_ (fun D _ => by simp) ?_
  · intro i x H' W hi hx c hW
    obtain ⟨di, hdi, hDi⟩ := (hs.mono c).get hx
    have dd : PyData.depthAll ds + 1 ≤ m := dm
    have dd2 : PyData.depthAll ds + 1 ≤ 60 := d60
    have := dpDs_get hdi
    walk_at "rd"
    refine ⟨dm_pos dm, x, di, u, u1, u2, n, rfl, hDi, c.sqt hu, p1, p2, plDs_get pl2 hdi, by omega, by omega, fun v' H2 hv c2 => ?_⟩
    exact hW _ H2 _ hv ⟨di, hdi, rfl⟩ c2
  · intro D' ys es H2 nD e2 h2 l2 hP c
    have ee : es = ds.map (renD u1 u2 n) := map_of (by rw [l2, hs.len]) fun i x y hx hy => by
      obtain ⟨d, h1, h3⟩ := hP i y hy
      rw [hx] at h1
      cases h1
      exact h3
    subst ee
    refine r_tupL (SqL.of e2) fun l H3 n3 c3 e3 => ?_
    walk_at "rd"
    exact k (.ref l) H3 (.tup (SqT.of e3) (h2.mono c3)) (c.trans c3)
theorem pure_replace_name {K : PySem.W.Frag} (m : Nat) (vs : List V) (H : Hp) (Q : VK) (E : XK) (h : spRen K m vs H Q E) : t_replace_name K (spLt (spRen K) m) { nx := fun _ H' => Q .non H', rt := Q } (L2.start N_replace_name vs) H := by
  obtain ⟨v, d, u, u1, u2, n, rfl, hd, hu, p1, p2, pl, dm, d60, k⟩ := h
  have hU : Dt K H (.ref u) (.tuple [.str u1, .str u2]) := .tup hu (.cons (.str _) (.cons (.str _) .nil))
  unfold t_replace_name
  walk_at "rd"
  refine r_eqD hd hU (pl_shaped pl (by omega)) (pl_shaped (pl_pair p1 p2) (by show max 0 (max 0 0) + 1 ≤ 64; decide)) ?_
  walk_at "rd"
  have ev := eqv_pl pl (pl_pair p1 p2)
  refine itb (fun c => ?_) (fun c => ?_)
  · walk_at "rd"
    rename_i t H1 n1 c1 e1
    have := ev.mp c
    subst this
    refine k (.ref t) H1 ?_ c1
    rw [ren_yes]
    exact .tup (SqT.of e1) (.cons (.str _) (.cons (.str _) .nil))
  · walk_at "nx"
    refine ts_seq (ts_if (tt_not (tt_b (te_cb ?_))))
    walk_at "rd"
    refine r_isTup hd ?_
    walk_at "rd"
    have hd' := hd
    cases hd with
    | @tup a ws ds hq hs =>
      walk_at "it"
      walk_at "nx"
      have hne : ds ≠ [.str u1, .str u2] := fun z => by
        subst z
        rw [ev.mpr rfl] at c
        cases c
      refine ren_tail rfl hq hs hu p1 p2 pl ?_ d60 fun v' H' h => k v' H' (by rw [ren_no hne]; exact h)
      exact dm
    | _ =>
      walk_at "it"
      walk_at "rd"
      exact k _ H hd' Ch.refl
theorem pure_renamed {K : PySem.W.Frag} (m : Nat) (vs : List V) (H : Hp) (Q : VK) (E : XK) (h : spRen K m vs H Q E) : t__law_renamed K (spLt (spRen K) m) { nx := fun _ H' => Q .non H', rt := Q } (L2.start N__law_renamed vs) H := by
  obtain ⟨v, d, u, u1, u2, n, rfl, hd, hu, p1, p2, pl, dm, d60, k⟩ := h
  unfold t__law_renamed
  walk_at "rd"
  refine r_isTup hd ?_
  walk_at "rd"
  have hd' := hd
  cases hd with
  | @tup a ws ds hq hs =>
    walk_at "it"
    walk_at "nx"
    have hln := hs.len
    have dm1 : (PyData.tuple ds).depth ≤ m := dm
    have rest : ds ≠ [.str u1, .str u2] → (tRet (tThen (tLc (iTup K (tVar 0)) (gName 3) tYes (tCallR (spLt (spRen K) m) (fun _ => E0) (tCons (tVar 3) (tCons (tVar 1) (tCons (tVar 2) tNil)))) [3]) (kTup K))) { nx := fun _ H' => Q .non H', rt := Q } [some (.ref a), some (.ref u), some (.str n), none] H := fun hne =>
      ren_tail rfl hq hs hu p1 p2 pl dm1 d60 fun v' H' h => k v' H' (by rw [ren_no hne]; exact h)
    refine ts_seq (ts_if (tt_and (tt_test (te_op ?_))))
    walk_at "rd"
    refine itd (fun c => ?_) (fun c => ?_)
    · obtain ⟨x, y, rfl⟩ := two_of (xs := ws) (by omega)
      obtain ⟨d0, d1, rfl⟩ := two_of (xs := ds) (by omega)
      obtain ⟨_, pls⟩ := pl_tup pl
      have pl0 : plD d0 = true := plDs_get (i := 0) pls rfl
      have pl1 : plD d1 = true := plDs_get (i := 1) pls rfl
      have dp : max d0.depth (max d1.depth 0) + 1 ≤ 60 := d60
      obtain ⟨h0, h1⟩ : Dt K H x d0 ∧ Dt K H y d1 := by
        cases hs with
        | cons h0 h => cases h with
          | cons h1 _ => exact ⟨h0, h1⟩
      walk_at "rd"
      refine r_eqD h0 (.str u1) (pl_shaped pl0 (by omega)) (pl_shaped p1 (by show 0 ≤ 64; decide)) ?_
      walk_at "rd"
      refine itb (fun c2 => ?_) (fun c2 => ?_)
      · walk_at "rd"
        refine r_eqD h1 (.str u2) (pl_shaped pl1 (by omega)) (pl_shaped p2 (by show 0 ≤ 64; decide)) ?_
        walk_at "rd"
        refine itb (fun c3 => ?_) (fun c3 => ?_)
        · have a0 := (eqv_pl pl0 p1).mp c2
          have a1 := (eqv_pl pl1 p2).mp c3
          subst a0 a1
          walk_at "rd"
          rename_i t H1 n1 c1 e1
          refine k (.ref t) H1 ?_ c1
          rw [ren_yes]
          exact .tup (SqT.of e1) (.cons (.str _) (.cons (.str _) .nil))
        · walk_at "nx"
          refine rest fun z => ?_
          injection z with z1 z2
          injection z2 with z2 _
          rw [(eqv_pl pl1 p2).mpr z2] at c3
          cases c3
      · walk_at "if"
        walk_at "nx"
        refine rest fun z => ?_
        injection z with z1 z2
        rw [(eqv_pl pl0 p1).mpr z1] at c2
        cases c2
    · walk_at "if"
      walk_at "nx"
      refine rest fun z => ?_
      subst z
      exact c (by rw [hln] <;> rfl)
  | _ =>
    walk_at "it"
    walk_at "rd"
    exact k _ H hd' Ch.refl
/-! The law's comparison of like data. -/
/-! data with tuples that are not too long -/
mutual
def tnD : PyData → Bool
  | .tuple ds => decide (ds.length ≤ 1000) && tnDs ds
  | .int _ => true
  | .str _ => true
  | .none => true
  | .bool _ => true
  | .list _ => false
  | .dict _ => false
def tnDs : List PyData → Bool
  | [] => true
  | d :: ds => tnD d && tnDs ds
end
theorem tnDs_get : ∀ {ds : List PyData} {i : Nat} {d : PyData}, tnDs ds = true → ds[i]? = some d → tnD d = true
  | [], i, d, _, h => by simp at h
  | x :: r, 0, d, h, e => by
    have e' : x = d := by simpa using e
    subst e'
    exact (Bool.and_eq_true_iff.mp (show (tnD x && tnDs r) = true from h)).1
  | x :: r, i + 1, d, h, e => tnDs_get (i := i) (Bool.and_eq_true_iff.mp (show (tnD x && tnDs r) = true from h)).2 (by simpa using e)
def spSame (K : PySem.W.Frag) (m : Nat) : Sp := fun vs H Q _ => ∃ v w d, vs = [v, w] ∧ Dt K H v d ∧ Dt K H w d ∧ tnD d = true ∧ d.depth ≤ m ∧ ∀ H', Ch [] H H' → Q (.bl true) H'
theorem r_all {K : PySem.W.Frag} {p : Addr} {n : Nat} {H : Hp} {Q : VK} (h : SqL K H p (List.replicate n (V.bl true))) (k : Q (.bl true) H) : rAll K [.ref p] H Q :=
  ⟨p, List.replicate n true, rfl, by rw [List.map_replicate]; exact h, by
    have e : (List.replicate n true).all id = true := by simp
    rw [e]; exact k⟩
theorem pure_same {K : PySem.W.Frag} (m : Nat) (vs : List V) (H : Hp) (Q : VK) (E : XK) (h : spSame K m vs H Q E) : t__law_same K (spLt (spSame K) m) { nx := fun _ H' => Q .non H', rt := Q } (L2.start N__law_same vs) H := by
  obtain ⟨v, w, d, rfl, hv, hw, tn, dm, k⟩ := h
  unfold t__law_same
  walk_at "rd"
  refine r_isTup hw ?_
  walk_at "rd"
  have hv' := hv
  have hw' := hw
  cases d with
  | tuple ds =>
    cases hv with
    | @tup a ws _ hq hs =>
    cases hw with
    | @tup b us _ hq2 hs2 =>
    obtain ⟨tl1, tl2⟩ := Bool.and_eq_true_iff.mp (show (decide (ds.length ≤ 1000) && tnDs ds) = true from tn)
    have tl3 := of_decide_eq_true tl1
    have l1 := hs.len
    have l2 := hs2.len
    have dm' : PyData.depthAll ds + 1 ≤ m := dm
    walk_at "it"
    walk_at "rd"
    refine r_isTup hv' ?_
    walk_at "rd"
    walk_at "it"
    walk_at "rd"
    refine itn (fun c => absurd (by omega) c) (fun c => ?_)
    walk_at "rd"
    refine lc_dat (K := K) (M := []) walks_rng (by omega) (fun i e => e = .bool true) (fun H' c => trivial) ?_ (fun D _ => by simp) ?_
    · rintro i x H' W hi rfl c0 hW
      have hi' : i < us.length := by simpa using hi
      have hi2 : i < ws.length := by omega
      obtain ⟨d1, e1, D1⟩ := (hs.mono c0).get (i := i) (List.getElem?_eq_getElem hi2)
      obtain ⟨d2, e2, D2⟩ := (hs2.mono c0).get (i := i) (List.getElem?_eq_getElem hi')
      rw [e1] at e2
      cases e2
      walk_at "rd"
      refine r_ixT (c0.sqt hq) (v := ws[i]) (by
        rw [Int.zero_add]
        exact atI_nat (List.getElem?_eq_getElem hi2)) ?_
      walk_at "rd"
      refine r_ixT (c0.sqt hq2) (v := us[i]) (by
        rw [Int.zero_add]
        exact atI_nat (List.getElem?_eq_getElem hi')) ?_
      walk_at "rd"
      have := dpDs_get e1
      exact ⟨dm_pos dm, _, _, d1, rfl, D1, D2, tnDs_get tl2 e1, by omega, fun H2 c2 => hW _ H2 _ (.bl true) rfl c2⟩
    · intro D ys es H2 nD e2 h2 l3 hP c0
      have go : ∀ {ys : List V} {es : List PyData}, Dts K H2 ys es → (∀ (i : Nat) d, es[i]? = some d → d = .bool true) → ys = List.replicate ys.length (V.bl true) := by
        intro ys es h
        induction es generalizing ys with
        | nil => intro _; cases h; rfl
        | cons x r ih =>
          intro hp
          cases h with
          | cons ha hb =>
            have hx := hp 0 x rfl
            subst hx
            cases ha
            have := ih hb fun i d e => hp (i + 1) d (by simpa using e)
            rw [List.length_cons, List.replicate_succ, ← this]
      have ey := go h2 hP
      rw [ey] at e2
      walk_at "rd"
      refine r_all (SqL.of e2) ?_
      walk_at "rd"
      exact k H2 c0
  | none =>
    cases hv
    cases hw
    walk_at "it"
    walk_at "rd"
    refine ⟨rfl, ?_⟩
    walk_at "rd"
    walk_at "it"
    walk_at "rd"
    refine ⟨rfl, ?_⟩
    walk_at "rd"
    exact k H Ch.refl
  | str z =>
    cases hv
    cases hw
    walk_at "it"
    walk_at "rd"
    refine ⟨rfl, ?_⟩
    walk_at "rd"
    walk_at "it"
    walk_at "rd"
    refine r_isStr (.str z) ?_
    walk_at "rd"
    walk_at "it"
    walk_at "rd"
    refine r_isStr (.str z) ?_
    walk_at "rd"
    walk_at "it"
    walk_at "rd"
    rw [decide_eq_true (rfl : z = z)]
    exact k H Ch.refl
  | bool b =>
    cases hv
    cases hw
    walk_at "it"
    walk_at "rd"
    refine ⟨rfl, ?_⟩
    walk_at "rd"
    walk_at "it"
    walk_at "rd"
    refine r_isStr (.bl b) ?_
    walk_at "rd"
    walk_at "it"
    walk_at "rd"
    refine r_isBool (.bl b) ?_
    walk_at "rd"
    walk_at "it"
    walk_at "rd"
    refine r_isBool (.bl b) ?_
    walk_at "rd"
    walk_at "it"
    walk_at "rd"
    refine .inl ⟨rfl, ?_⟩
    walk_at "rd"
    rw [decide_eq_true (rfl : V.bl b = V.bl b)]
    exact k H Ch.refl
  | int i =>
    cases hv
    cases hw
    walk_at "it"
    walk_at "rd"
    refine ⟨rfl, ?_⟩
    walk_at "rd"
    walk_at "it"
    walk_at "rd"
    refine r_isStr (.int i) ?_
    walk_at "rd"
    walk_at "it"
    walk_at "rd"
    refine r_isBool (.int i) ?_
    walk_at "rd"
    walk_at "it"
    walk_at "rd"
    refine r_isInt (.int i) ?_
    walk_at "rd"
    walk_at "it"
    walk_at "rd"
    refine r_isBool (.int i) ?_
    walk_at "rd"
    walk_at "it"
    walk_at "rd"
    rw [decide_eq_true (rfl : i = i)]
    exact k H Ch.refl
  | list _ => cases tn
  | dict _ => cases tn
/-! Papers: a dict of names with pairs of a kind and a term. -/
abbrev PM : Type := List (Str × Str × PyData)
def mlook : PM → Str → Option (Str × PyData)
  | [], _ => none
  | e :: r, z => if e.1 = z then some e.2 else mlook r z
def putM (m : PM) (z k : Str) (d : PyData) : PM := if (m.any fun e => decide (e.1 = z)) = true then m.map (fun e => if e.1 = z then (e.1, k, d) else e) else m ++ [(z, k, d)]
def dropM (m : PM) (z : Str) : PM := m.filter fun e => !decide (e.1 = z)
inductive PEnts (K : PySem.W.Frag) (H : Hp) : List (Key × V) → PM → Prop
  | nil : PEnts K H [] []
  | cons {z k : Str} {q : Addr} {tv : V} {d : PyData} {l : List (Key × V)} {m : PM} : SqT K H q [.str k, tv] → Dt K H tv d → PEnts K H l m → PEnts K H ((.inr z, .ref q) :: l) ((z, k, d) :: m)
structure PapAt (K : PySem.W.Frag) (H : Hp) (p : Addr) (m : PM) : Prop where
  ex : ∃ l, H p = some (.dK l) ∧ PEnts K H l m
  nd : (m.map (·.1)).Nodup
section
variable {K : PySem.W.Frag} {H H' : Hp} {M : List Addr}
theorem PEnts.mono (c : Ch M H H') : ∀ {l : List (Key × V)} {m : PM}, PEnts K H l m → PEnts K H' l m
  | _, _, .nil => .nil
  | _, _, .cons a b r => .cons (c.sqt a) (b.mono c) (r.mono c)
theorem PEnts.len : ∀ {l : List (Key × V)} {m : PM}, PEnts K H l m → l.length = m.length
  | _, _, .nil => rfl
  | _, _, .cons _ _ r => by rw [List.length_cons, List.length_cons, r.len]
theorem inr_eq {x y : Str} : (Sum.inr x : Key) = Sum.inr y ↔ x = y := ⟨fun h => by cases h; rfl, fun h => by rw [h]⟩
theorem PEnts.look : ∀ {l : List (Key × V)} {m : PM} (z : Str), PEnts K H l m → match mlook m z with
    | none => valV l (Sum.inr z : Key) = none
    | some (k, d) => ∃ q tv, valV l (Sum.inr z : Key) = some (.ref q) ∧ SqT K H q [.str k, tv] ∧ Dt K H tv d
  | _, _, z, .nil => rfl
  | _, _, z, @PEnts.cons _ _ y k q tv d l m a b r => by
    unfold mlook
    by_cases e : y = z
    · subst e
      rw [if_pos rfl]
      exact ⟨q, tv, valV_pos rfl, a, b⟩
    · rw [if_neg e]
      have v : valV ((Sum.inr y, V.ref q) :: l) (Sum.inr z : Key) = valV l (Sum.inr z : Key) := by
        simp [valV, List.find?_cons, inr_eq, e]
      have ih := r.look z
      cases q : mlook m z with
      | none => rw [q] at ih; show valV _ _ = none; rw [v]; exact ih
      | some w =>
        obtain ⟨k', d'⟩ := w
        rw [q] at ih
        obtain ⟨q', tv', h1, h2⟩ := ih
        exact ⟨q', tv', by rw [v]; exact h1, h2⟩
theorem PEnts.look_no {l : List (Key × V)} {m : PM} {z : Str} (h : PEnts K H l m) (e : mlook m z = none) : valV l (Sum.inr z : Key) = none := by
  have := h.look z
  rw [e] at this
  exact this
theorem PEnts.look_yes {l : List (Key × V)} {m : PM} {z k : Str} {d : PyData} (h : PEnts K H l m) (e : mlook m z = some (k, d)) : ∃ q tv, valV l (Sum.inr z : Key) = some (.ref q) ∧ SqT K H q [.str k, tv] ∧ Dt K H tv d := by
  have := h.look z
  rw [e] at this
  exact this
theorem PEnts.isSome {l : List (Key × V)} {m : PM} {z : Str} (h : PEnts K H l m) : (valV l (Sum.inr z : Key)).isSome = (mlook m z).isSome := by
  cases e : mlook m z with
  | none => rw [h.look_no e] <;> rfl
  | some w =>
    obtain ⟨q, tv, h1, _⟩ := h.look_yes (k := w.1) (d := w.2) e
    rw [h1] <;> rfl
theorem PEnts.append : ∀ {l l' : List (Key × V)} {m m' : PM}, PEnts K H l m → PEnts K H l' m' → PEnts K H (l ++ l') (m ++ m')
  | _, _, _, _, .nil, h => h
  | _, _, _, _, .cons a b r, h => .cons a b (r.append h)
theorem PEnts.put {l : List (Key × V)} {m : PM} {z k : Str} {q : Addr} {tv : V} {d : PyData} (h : PEnts K H l m) (hq : SqT K H q [.str k, tv]) (hd : Dt K H tv d) : PEnts K H (putK l (Sum.inr z : Key) (.ref q)) (putM m z k d) := by
  have any : (l.any fun kv => decide (kv.1 = (Sum.inr z : Key))) = m.any fun e => decide (e.1 = z) := by
    clear hq hd
    induction h with
    | nil => rfl
    | @cons y k' q' tv' d' l m a b r ih =>
      rw [List.any_cons, List.any_cons, ih]
      congr 1
      by_cases e : y = z <;> simp [inr_eq, e]
  unfold putK putM
  rw [any]
  cases e : m.any fun e => decide (e.1 = z) with
  | true =>
    rw [if_pos rfl, if_pos rfl]
    clear any e
    induction h with
    | nil => exact .nil
    | @cons y k' q' tv' d' l m a b r ih =>
      rw [List.map_cons, List.map_cons]
      by_cases e : y = z
      · simp only [inr_eq, e, if_true]
        exact .cons hq hd ih
      · simp only [inr_eq, e, if_false]
        exact .cons a b ih
  | false =>
    rw [if_neg Bool.false_ne_true, if_neg Bool.false_ne_true]
    exact h.append (.cons hq hd .nil)
end
/-! ### what is looked up -/
theorem mlook_put (m : PM) (z k : Str) (d : PyData) (y : Str) : mlook (putM m z k d) y = if y = z then some (k, d) else mlook m y := by
  unfold putM
  have ap : ∀ m : PM, (m.any fun e => decide (e.1 = z)) = false → mlook (m ++ [(z, k, d)]) y = if y = z then some (k, d) else mlook m y := by
    intro m
    induction m with
    | nil =>
      intro _
      show (if z = y then some (k, d) else none) = _
      by_cases e : y = z
      · rw [if_pos e, if_pos e.symm]
      · rw [if_neg e, if_neg (fun h => e h.symm)] <;> rfl
    | cons x r ih =>
      intro h
      rw [List.any_cons, Bool.or_eq_false_iff] at h
      have hx : ¬ x.1 = z := of_decide_eq_false h.1
      show (if x.1 = y then some x.2 else mlook (r ++ [(z, k, d)]) y) = if y = z then some (k, d) else (if x.1 = y then some x.2 else mlook r y)
      rw [ih h.2]
      by_cases e : x.1 = y
      · rw [if_pos e, if_pos e]
        have : ¬ y = z := fun q => hx (e.trans q)
        rw [if_neg this]
      · rw [if_neg e, if_neg e]
  have mp : ∀ m : PM, (m.any fun e => decide (e.1 = z)) = true → mlook (m.map fun e => if e.1 = z then (e.1, k, d) else e) y = if y = z then some (k, d) else mlook m y := by
    intro m
    induction m with
    | nil => intro h; cases h
    | cons x r ih =>
      intro h
      rw [List.map_cons]
      by_cases e : x.1 = z
      · rw [if_pos e]
        show (if x.1 = y then some (k, d) else mlook (r.map _) y) = if y = z then some (k, d) else (if x.1 = y then some x.2 else mlook r y)
        by_cases e2 : x.1 = y
        · rw [if_pos e2, if_pos (e2.symm.trans e)]
        · rw [if_neg e2, if_neg e2]
          have e3 : ¬ y = z := fun q => e2 (e.trans q.symm)
          rw [if_neg e3]
          cases q : r.any fun e => decide (e.1 = z) with
          | true => rw [ih q, if_neg e3]
          | false =>
            congr 1
            have all : ∀ e ∈ r, ¬ e.1 = z := fun e he c => by
              have := List.any_eq_false.mp q e he
              simp [c] at this
            have : r.map (fun e => if e.1 = z then (e.1, k, d) else e) = r := by
              conv => rhs; rw [← List.map_id r]
              exact List.map_congr_left fun e he => by rw [if_neg (all e he)] <;> rfl
            rw [this]
      · rw [if_neg e]
        have h' : (r.any fun e => decide (e.1 = z)) = true := by
          rw [List.any_cons, decide_eq_false e, Bool.false_or] at h
          exact h
        show (if x.1 = y then some x.2 else mlook (r.map _) y) = if y = z then some (k, d) else (if x.1 = y then some x.2 else mlook r y)
        rw [ih h']
        by_cases e2 : x.1 = y
        · rw [if_pos e2, if_pos e2]
          have : ¬ y = z := fun q => e (e2.trans q)
          rw [if_neg this]
        · rw [if_neg e2, if_neg e2]
  cases e : m.any fun e => decide (e.1 = z) with
  | true => rw [if_pos rfl]; exact mp m e
  | false => rw [if_neg Bool.false_ne_true]; exact ap m e
theorem mlook_drop (m : PM) (z y : Str) : mlook (dropM m z) y = if y = z then none else mlook m y := by
  induction m with
  | nil => show none = _; split <;> rfl
  | cons x r ih =>
    unfold dropM at ih ⊢
    rw [List.filter_cons]
    by_cases e : x.1 = z
    · rw [if_neg (by simp [e]), ih]
      show _ = if y = z then none else (if x.1 = y then some x.2 else mlook r y)
      by_cases e2 : y = z
      · rw [if_pos e2, if_pos e2]
      · rw [if_neg e2, if_neg e2, if_neg (fun q => e2 (q.symm.trans e))]
    · rw [if_pos (by simp [e])]
      show (if x.1 = y then some x.2 else mlook (r.filter _) y) = if y = z then none else (if x.1 = y then some x.2 else mlook r y)
      rw [ih]
      by_cases e2 : x.1 = y
      · rw [if_pos e2, if_pos e2, if_neg (fun q => e (e2.trans q))]
      · rw [if_neg e2, if_neg e2]
theorem keys_put {m : PM} {z k : Str} {d : PyData} (h : (m.map (·.1)).Nodup) : ((putM m z k d).map (·.1)).Nodup := by
  unfold putM
  cases e : m.any fun e => decide (e.1 = z) with
  | true =>
    rw [if_pos rfl, List.map_map]
    have : ((fun e : Str × Str × PyData => e.1) ∘ fun e => if e.1 = z then (e.1, k, d) else e) = fun e : Str × Str × PyData => e.1 := by
      funext x
      show (if x.1 = z then (x.1, k, d) else x).1 = x.1
      split <;> rfl
    rw [this]
    exact h
  | false =>
    rw [if_neg Bool.false_ne_true, List.map_append]
    refine nd_snoc h fun hm => ?_
    obtain ⟨x, hx, ex⟩ := List.mem_map.mp hm
    have := List.any_eq_false.mp e x hx
    simp [ex] at this
theorem keys_drop {m : PM} {z : Str} (h : (m.map (·.1)).Nodup) : ((dropM m z).map (·.1)).Nodup := List.Nodup.sublist (List.filter_sublist.map _) h
theorem mem_look {m : PM} {z : Str} : z ∈ m.map (·.1) ↔ mlook m z ≠ none := by
  induction m with
  | nil => simp [mlook]
  | cons x r ih =>
    rw [List.map_cons, List.mem_cons]
    unfold mlook
    by_cases e : x.1 = z
    · rw [if_pos e]; simp [e]
    · rw [if_neg e, ← ih]
      constructor
      · rintro (h | h)
        · exact absurd h.symm e
        · exact h
      · exact .inr
/-! Papers put, dropped, renamed: the program's side. -/
abbrev sAim : Str := PySem.Str.ofString "aim"
abbrev sTree : Str := PySem.Str.ofString "tree"
def isKind (k : Str) : Bool := decide (k = sAim) || decide (k = sTree)
/-- what a term of a paper must be here -/
structure OkT (d : PyData) : Prop where
  pl : plD d = true
  fl : flD d = true
  sz : szD d ≤ 100
  dp : d.depth ≤ 5
inductive Ed where
  | put (z k : Str) (d : PyData)
  | drop (z : Str)
  | ren (o n : Str)
inductive Rs where
  | ok | name | kind | term | unknown | new
  deriving DecidableEq
def rsE (m : PM) : Ed → Rs
  | .put z k d => if isWord z = false then .name else if isKind k = false then .kind else if wOk d 30 = false then .term else .ok
  | .drop z => if (mlook m z).isSome then .ok else .unknown
  | .ren o n => if (mlook m o).isSome then (if isWord n = false then .new else if (mlook m n).isSome then .new else .ok) else .unknown
def renM (m : PM) (o n : Str) : PM := match mlook m o with
  | some (k0, _) => m.map fun e => (if e.1 = o then n else e.1, e.2.1, renD k0 o n e.2.2)
  | none => m
def edM (m : PM) : Ed → PM
  | .put z k d => putM m z k d
  | .drop z => dropM m z
  | .ren o n => renM m o n
/-- which error: its class -/
def ExcR (K : PySem.W.Frag) (r : Rs) (cls : Value) : Prop := match r with
  | .ok => False
  | .name => cls = .ref (He.ga K "InvalidName")
  | .kind => cls = .ref (He.ga K "OutOfRange")
  | .term => cls = .ref (He.ga K "InvalidTerm")
  | .unknown => cls = .ref (He.ga K "UnknownName")
  | .new => cls = .ref (He.ga K "InvalidName") ∨ cls = .ref (He.ga K "NameTaken")
theorem r_niK {K : PySem.W.Frag} {mg : Str → Option Value} (T : TT K mg) {k : Str} {H : Hp} {Q : VK} (q : Q (.bl (!isKind k)) H) : rNotInG K (.str k) (.ref (He.ga K "KINDS")) H Q :=
  .inl ⟨_, _, rfl, .inr (tp_KINDS T H), rfl, rfl, by
    show Q (.bl (!inV (.str k) [.str "aim", .str "tree"])) H
    rw [inV_kinds]
    exact q⟩
def spPutP (K : PySem.W.Frag) : Sp := fun vs H Q E => ∃ p m z k tv d, vs = [.ref p, .str z, .str k, tv] ∧ PapAt K H p m ∧ Dt K H tv d ∧ OkT d ∧ z.length ≤ 100000 ∧ (m.length < 20 ∨ (mlook m z).isSome = true) ∧ m.length ≤ 1000 ∧
  (rsE m (.put z k d) = .ok → ∀ p' H', H p' = none → PapAt K H' p' (putM m z k d) → Ch [] H H' → Q (.ref p') H') ∧ (∀ cls dd H', ExcR K (rsE m (.put z k d)) cls → Ch [] H H' → XdOk dd H' → E cls dd H')
theorem pure_put_paper {K : PySem.W.Frag} {mg : Str → Option Value} (T : TT K mg) (vs : List V) (H : Hp) (Q : VK) (E : XK) (h : spPutP K vs H Q E) : t_put_paper K (spIsWord K) (spWT K 5) (spNest K 5) E { nx := fun _ H' => Q .non H', rt := Q } (L2.start N_put_paper vs) H := by
  obtain ⟨p, m, z, k, tv, d, rfl, ⟨⟨l, hp, he⟩, nd⟩, hd, ok, lz, room, lm, kS, kE⟩ := h
  have hlen := he.len
  unfold t_put_paper
  walk_at "rd"
  refine ⟨_, _, rfl, .str z, (fun z' e => by cases e; exact lz), ?_⟩
  walk_at "rd"
  cases cw : isWord z with
  | false =>
    refine itT (by show (!isWord z) = true; rw [cw] <;> rfl) ?_
    refine ts_raiseO (kE _ _ H ?_ Ch.refl (.inl rfl))
    show ExcR K (if isWord z = false then .name else _) _
    rw [if_pos cw] <;> rfl
  | true =>
  refine itF (by show (!isWord z) = false; rw [cw] <;> rfl) ?_
  walk_at "nx"
  refine ts_seq (ts_if (tt_test (te_op ?_)))
  walk_at "rd"
  refine r_niK T ?_
  walk_at "rd"
  cases ck : isKind k with
  | false =>
    refine itT (by rfl) ?_
    refine ts_raiseO (kE _ _ H ?_ Ch.refl (.inl rfl))
    show ExcR K (if isWord z = false then .name else if isKind k = false then .kind else _) _
    rw [cw, if_neg (by simp), if_pos ck] <;> rfl
  | true =>
  refine itF (by rfl) ?_
  walk_at "nx"
  walk_at "rd"
  have rs : rsE m (.put z k d) = if wOk d 30 = false then .term else .ok := by
    show (if isWord z = false then Rs.name else if isKind k = false then .kind else _) = _
    rw [cw, ck, if_neg (by simp), if_neg (by simp)]
  refine ⟨tv, d, rfl, hd, ok.pl, Nat.le_trans ok.sz (by decide), ok.dp, fun wo zz H1 c1 => ?_, fun wo dd H1 c1 x1 => kE _ _ H1 (by rw [rs, if_pos wo] <;> rfl) c1 x1⟩
  have rs' : rsE m (.put z k d) = .ok := by rw [rs, wo, if_neg (by simp)]
  walk_at "rd"
  rename_i q0 H2 n2 c2 e2
  refine ⟨tv, d, q0, rfl, (hd.mono c1).mono c2, e2, ok.pl, ok.fl, ok.dp, fun H3 c3 => ?_⟩
  have c03 : Ch [] H H3 := (c1.trans c2).trans c3
  have hp3 : H3 p = some (.dK l) := c03.at0 hp
  walk_at "rd"
  have dp := ok.dp
  refine itF ?itx ?_
  case itx => exact decide_eq_false (by omega)
  walk_at "rd"
  refine dniq (.inl hp3) ?_
  walk_at "rd"
  have tail : (tSeq (tAsg (tCB rDictD (tCons (tVar 0) tNil)) (gName 4)) (tSeq (sDPut (tVar 4) (tVar 1) (tTup (tCons (tVar 2) (tCons (tVar 3) tNil)))) (tRet (tVar 4)))) { nx := fun _ H' => Q .non H', rt := Q } [some (.ref p), some (.str z), some (.str k), some tv, none] H3 := by
    walk_at "rd"
    refine r_dictD (.inl hp3) fun p' H4 n4 c4 e4 => ?_
    walk_at "rd"
    rename_i q H5 n5 c5 e5
    refine dptq (c5.at0 e4) (by omega) fun H6 c6 e6 => ?_
    walk_at "rd"
    have c05 : Ch [] H H5 := (c03.trans c4).trans c5
    refine kS rs' p' H6 (c03.free n4) ⟨⟨_, e6, ?_⟩, keys_put nd⟩ (Ch.fresh1 c05 c6 (c03.free n4))
    exact ((he.mono c05).mono c6).put (c6.sqt (SqT.of e5)) ((hd.mono c05).mono c6)
  rw [he.isSome]
  refine itb (fun c => ?_) (fun c => ?_)
  · walk_at "rd"
    have hnone : (mlook m z).isSome = false := by simpa using c
    have : m.length < 20 := room.resolve_right (by rw [hnone]; simp)
    refine itF ?itx ?_
    case itx => exact decide_eq_false (by omega)
    walk_at "nx"
    exact tail
  · walk_at "if"
    walk_at "nx"
    exact tail
def spDropP (K : PySem.W.Frag) : Sp := fun vs H Q E => ∃ p m z, vs = [.ref p, .str z] ∧ PapAt K H p m ∧ m.length ≤ 1000 ∧
  (rsE m (.drop z) = .ok → ∀ p' H', H p' = none → PapAt K H' p' (dropM m z) → Ch [] H H' → Q (.ref p') H') ∧ (∀ cls dd H', ExcR K (rsE m (.drop z)) cls → Ch [] H H' → XdOk dd H' → E cls dd H')
theorem putK_app {κ : Type} [DecidableEq κ] {kvs : List (κ × V)} {k : κ} {v : V} (h : ∀ e ∈ kvs, ¬ e.1 = k) : putK kvs k v = kvs ++ [(k, v)] := by
  unfold putK
  have : (kvs.any fun kv => decide (kv.1 = k)) = false := List.any_eq_false.mpr fun e he => by simp [h e he]
  rw [this, if_neg Bool.false_ne_true]
theorem PEnts.get {K : PySem.W.Frag} {H : Hp} : ∀ {l : List (Key × V)} {m : PM} {i : Nat} {kv : Key × V}, PEnts K H l m → l[i]? = some kv → ∃ z k q tv d, kv = (.inr z, .ref q) ∧ m[i]? = some (z, k, d) ∧ SqT K H q [.str k, tv] ∧ Dt K H tv d
  | _, _, _, _, .nil, h => by simp at h
  | _, _, 0, kv, @PEnts.cons _ _ z k q tv d l m a b _, e => by
    have : (Sum.inr z, V.ref q) = kv := by simpa using e
    exact ⟨z, k, q, tv, d, this.symm, rfl, a, b⟩
  | _, _, i + 1, kv, .cons _ _ r, e => by
    obtain ⟨z, k, q, tv, d, h1, h2, h3⟩ := r.get (i := i) (by simpa using e)
    exact ⟨z, k, q, tv, d, h1, by simpa using h2, h3⟩
theorem PEnts.keys {K : PySem.W.Frag} {H : Hp} : ∀ {l : List (Key × V)} {m : PM}, PEnts K H l m → l.map (·.1) = m.map fun e => (Sum.inr e.1 : Key)
  | _, _, .nil => rfl
  | _, _, .cons _ _ r => by rw [List.map_cons, List.map_cons, r.keys]
theorem mlook_at {m : PM} {i : Nat} {z k : Str} {d : PyData} (nd : (m.map (·.1)).Nodup) (h : m[i]? = some (z, k, d)) : mlook m z = some (k, d) := by
  induction m generalizing i with
  | nil => simp at h
  | cons x r ih =>
    rw [List.map_cons, List.nodup_cons] at nd
    cases i with
    | zero =>
      have : x = (z, k, d) := by simpa using h
      subst this
      exact if_pos rfl
    | succ i =>
      have h' : r[i]? = some (z, k, d) := by simpa using h
      have : ¬ x.1 = z := fun q => nd.1 (by rw [q]; exact List.mem_map.mpr ⟨_, List.mem_of_getElem? h', rfl⟩)
      show (if x.1 = z then _ else mlook r z) = _
      rw [if_neg this]
      exact ih nd.2 h'
theorem take_snoc {α : Type} {l : List α} {i : Nat} {x : α} (h : l[i]? = some x) : l.take (i + 1) = l.take i ++ [x] := by
  rw [List.take_add_one, h] <;> rfl
theorem not_before {m : PM} {i : Nat} {e : Str × Str × PyData} (nd : (m.map (·.1)).Nodup) (h : m[i]? = some e) : ∀ x ∈ m.take i, ¬ x.1 = e.1 := by
  intro x hx q
  obtain ⟨j, hj⟩ := List.mem_iff_getElem?.mp hx
  have hji : j < i := by
    have := (List.getElem?_eq_some_iff.mp hj).1
    simp at this
    omega
  rw [List.getElem?_take, if_pos hji] at hj
  have a : (m.map (·.1))[j]? = some x.1 := by rw [List.getElem?_map, hj] <;> rfl
  have b : (m.map (·.1))[i]? = some e.1 := by rw [List.getElem?_map, h] <;> rfl
  have := nd_ix nd a (by rw [b, q])
  omega
theorem pure_drop_paper {K : PySem.W.Frag} {mg : Str → Option Value} (T : TT K mg) (vs : List V) (H : Hp) (Q : VK) (E : XK) (h : spDropP K vs H Q E) : t_drop_paper K (spI1 K "UnknownName" "name") E { nx := fun _ H' => Q .non H', rt := Q } (L2.start N_drop_paper vs) H := by
  obtain ⟨p, m, z, rfl, ⟨⟨l, hp, he⟩, nd⟩, lm, kS, kE⟩ := h
  have hlen := he.len
  unfold t_drop_paper
  walk_at "rd"
  refine dniq (.inl hp) ?_
  walk_at "rd"
  rw [he.isSome]
  cases cz : (mlook m z).isSome with
  | false =>
    refine itT (by rfl) ?_
    refine ts_raiseI ?_
    walk_at "rd"
    refine raq fun dd H2 _ c e => kE _ _ H2 ?_ c (.inr ⟨_, _, rfl, e⟩)
    show ExcR K (if (mlook m z).isSome = true then .ok else .unknown) _
    rw [cz, if_neg (by simp)] <;> rfl
  | true =>
  refine itF (by rfl) ?_
  walk_at "nx"
  have rs : rsE m (.drop z) = .ok := if_pos cz
  refine ts_ret (te_lock hp fun od => ?_)
  have cl := Ch.lock (o := od) hp
  have el : (upd H p (.frz od (.dK l))) p = some (.frz od (.dK l)) := upd_same
  generalize hL : upd H p (.frz od (.dK l)) = HL at cl el ⊢
  walk_at "rd"
  refine keyq el ?_
  walk_at "rd"
  have heL := he.mono cl
  refine dcq walks_keys (fun D i ys H' => Ch [] HL H' ∧ PEnts K H' ys (dropM (m.take i) z)) (fun D H2 _ c _ => ⟨c, .nil⟩) (fun D i ys H' h => h.1.at0 el) ?_ ?_
  · rintro D i x ys H' nD hi ⟨kx, vx, hkv, rfl⟩ ⟨c, pe⟩ eD ly
    obtain ⟨y, k, q, tv, d, ekv, em, hq, hd⟩ := (heL.mono c).get hkv
    cases ekv
    rw [show kV (Sum.inr y : Key) = V.str y from rfl]
    walk_at "rd"
    have nb := not_before nd em
    refine itn (fun cne => ?_) (fun ceq => ?_)
    · walk_at "rd"
      obtain ⟨q', tv', g1, g2, g3⟩ := (heL.mono c).look_yes (mlook_at nd em)
      refine dgtq (.inr ⟨od, c.at0 el⟩) g1 ?_
      refine pairq (k := Sum.inr y) eD ly (by omega) fun H5 c5 e5 => ⟨Ch.fresh1 c c5 nD, ?_⟩
      have kno : ∀ e ∈ ys, ¬ e.1 = (Sum.inr y : Key) := fun e he q => by
        have : e.1 ∈ ys.map (·.1) := List.mem_map.mpr ⟨e, he, rfl⟩
        rw [pe.keys] at this
        obtain ⟨x, hx, ex⟩ := List.mem_map.mp this
        rw [q] at ex
        exact nb x (List.mem_filter.mp hx).1 (inr_eq.mp ex)
      rw [putK_app kno, take_snoc em]
      unfold dropM at pe ⊢
      rw [List.filter_append]
      have : List.filter (fun e : Str × Str × PyData => !decide (e.1 = z)) [(y, k, d)] = [(y, k, d)] := by simp [cne]
      rw [this]
      exact (pe.mono c5).append (.cons (c5.sqt g2) (g3.mono c5) .nil)
    · refine nxd eD ly ⟨c, ?_⟩
      rw [take_snoc em]
      unfold dropM
      rw [List.filter_append]
      have : List.filter (fun e : Str × Str × PyData => !decide (e.1 = z)) [(y, k, d)] = [] := by simp [ceq]
      rw [this, List.append_nil]
      exact pe
  · rintro D ys H' nD ⟨c, pe⟩ eD _
    refine ⟨c.at0 el, ?_⟩
    subst hL
    have e2 := c.at0 el
    have cu : Ch [p] H' (upd H' p (.dK l)) := Ch.set Ch.refl (List.mem_singleton.mpr rfl) e2 rfl
    have hDp : D ≠ p := fun q => by rw [q, upd_same] at nD; cases nD
    refine nd_rt ?_
    refine kS rs D _ (cl.dom D nD) ⟨⟨ys, by rw [upd_ne hDp]; exact eD, ?_⟩, keys_drop nd⟩ (Ch.unlock hp c)
    rw [List.take_of_length_le (by omega)] at pe
    exact pe.mono cu
/-! Papers renamed; one edit. -/
/-- what all papers are here -/
structure GE (e : Str × Str × PyData) : Prop where
  wd : isWord e.1 = true
  kd : isKind e.2.1 = true
  ok : OkT e.2.2
def GM (m : PM) : Prop := ∀ e ∈ m, GE e
theorem letters_small : ∀ c ∈ c_LETTERS_v.cps.toList, c < 128 := by decide +kernel
theorem word_pl {z : Str} (h : isWord z = true) : plD (.str z) = true := by
  unfold isWord at h
  simp only [Bool.and_eq_true, decide_eq_true_eq, List.all_eq_true] at h
  obtain ⟨_, h2, h3⟩ := h
  show (decide (z.length ≤ 1000) && PyData.strOk z) = true
  rw [decide_eq_true (show z.length ≤ 1000 by omega), Bool.true_and]
  show z.cps.all _ = true
  rw [Array.all_eq_true_iff_forall_mem]
  intro c hc
  have := letters_small c (h3 c (by simpa using hc))
  simp only [decide_eq_true_eq]
  omega
theorem kind_pl {k : Str} (h : isKind k = true) : plD (.str k) = true := by
  unfold isKind at h
  rcases (by simpa using h : k = sAim ∨ k = sTree) with rfl | rfl <;> decide +kernel
def spRenP (K : PySem.W.Frag) : Sp := fun vs H Q E => ∃ p m o n, vs = [.ref p, .str o, .str n] ∧ PapAt K H p m ∧ GM m ∧ m.length ≤ 1000 ∧ n.length ≤ 100000 ∧
  (rsE m (.ren o n) = .ok → ∀ p' H', H p' = none → PapAt K H' p' (renM m o n) → Ch [] H H' → Q (.ref p') H') ∧ (∀ cls dd H', ExcR K (rsE m (.ren o n)) cls → Ch [] H H' → XdOk dd H' → E cls dd H')
theorem g_tup2 {K : PySem.W.Frag} {i j : Nat} {a : Addr} {x y : V} {σ : L2.St} {H : Hp} {Q : L2.St → Hp → Prop} (h : SqT K H a [x, y]) (k : Q ((σ.set i (some x)).set j (some y)) H) : gTup K 2 (gCons (gName i) (gCons (gName j) gNil)) (.ref a) σ H Q :=
  ⟨a, [x, y], rfl, h, rfl, x, [y], rfl, y, [], rfl, rfl, k⟩
def rk (o n y : Str) : Str := if y = o then n else y
theorem rk_ne {m : PM} {i : Nat} {o n : Str} {e : Str × Str × PyData} (nd : (m.map (·.1)).Nodup) (hn : mlook m n = none) (h : m[i]? = some e) : ∀ x ∈ m.take i, ¬ rk o n x.1 = rk o n e.1 := by
  intro x hx q
  have a := not_before nd h x hx
  have mx : x.1 ≠ n := fun z => by
    have : x.1 ∈ m.map (·.1) := List.mem_map.mpr ⟨x, List.mem_of_mem_take hx, rfl⟩
    rw [z] at this
    exact (mem_look.mp this) hn
  have me : e.1 ≠ n := fun z => by
    have : e.1 ∈ m.map (·.1) := List.mem_map.mpr ⟨e, List.mem_of_getElem? h, rfl⟩
    rw [z] at this
    exact (mem_look.mp this) hn
  unfold rk at q
  split at q <;> split at q
  · rename_i h1 h2; exact a (h1.trans h2.symm)
  · exact me q.symm
  · exact mx q
  · exact a q
theorem keys_ren {m : PM} {o n : Str} {f : PyData → PyData} (nd : (m.map (·.1)).Nodup) (hn : mlook m n = none) : ((m.map fun e => (rk o n e.1, e.2.1, f e.2.2)).map (·.1)).Nodup := by
  rw [List.map_map]
  show (m.map fun e => rk o n e.1).Nodup
  have nd' := List.pairwise_map.mp nd
  refine List.pairwise_map.mpr (nd'.imp_of_mem fun {a b} ha hb hab q => ?_)
  have ma : a.1 ≠ n := fun z => by
    have : a.1 ∈ m.map (·.1) := List.mem_map.mpr ⟨a, ha, rfl⟩
    rw [z] at this
    exact (mem_look.mp this) hn
  have mb : b.1 ≠ n := fun z => by
    have : b.1 ∈ m.map (·.1) := List.mem_map.mpr ⟨b, hb, rfl⟩
    rw [z] at this
    exact (mem_look.mp this) hn
  unfold rk at q
  split at q <;> split at q
  · rename_i h1 h2; exact hab (h1.trans h2.symm)
  · exact mb q.symm
  · exact ma q
  · exact hab q
theorem mlook_mem {m : PM} {z k : Str} {d : PyData} (h : mlook m z = some (k, d)) : (z, k, d) ∈ m := by
  induction m with
  | nil => cases h
  | cons x r ih =>
    unfold mlook at h
    by_cases e : x.1 = z
    · rw [if_pos e] at h
      have : x = (z, k, d) := by
        obtain ⟨x1, x2⟩ := x
        have h' : x2 = (k, d) := by simpa using h
        have e' : x1 = z := e
        rw [h', e']
      rw [this]
      exact List.mem_cons_self
    · rw [if_neg e] at h
      exact List.mem_cons_of_mem _ (ih h)
theorem pure_rename_paper {K : PySem.W.Frag} {mg : Str → Option Value} (T : TT K mg) (vs : List V) (H : Hp) (Q : VK) (E : XK) (h : spRenP K vs H Q E) :
    t_rename_paper K (spI1 K "UnknownName" "name") (spIsWord K) (spI1 K "NameTaken" "name") (spRen K 5) E { nx := fun _ H' => Q .non H', rt := Q } (L2.start N_rename_paper vs) H := by
  obtain ⟨p, m, o, n, rfl, ⟨⟨l, hp, he⟩, nd⟩, gm, lm, ln, kS, kE⟩ := h
  have hlen := he.len
  unfold t_rename_paper
  walk_at "rd"
  refine dniq (.inl hp) ?_
  walk_at "rd"
  rw [he.isSome]
  have rs0 : rsE m (.ren o n) = if (mlook m o).isSome then (if isWord n = false then .new else if (mlook m n).isSome then .new else .ok) else .unknown := rfl
  cases co : mlook m o with
  | none =>
    refine itT (by rfl) ?_
    refine ts_raiseI ?_
    walk_at "rd"
    refine raq fun dd H2 _ c e => kE _ _ H2 ?_ c (.inr ⟨_, _, rfl, e⟩)
    rw [rs0, co] <;> rfl
  | some kd =>
  obtain ⟨k0, d0⟩ := kd
  rw [co] at rs0
  refine itF (by rfl) ?_
  walk_at "nx"
  walk_at "rd"
  refine ⟨_, _, rfl, .str n, (fun z' e => by cases e; exact ln), ?_⟩
  walk_at "rd"
  cases cw : isWord n with
  | false =>
    refine itT (by show (!isWord n) = true; rw [cw] <;> rfl) ?_
    refine ts_raiseO (kE _ _ H ?_ Ch.refl (.inl rfl))
    rw [rs0, cw]
    exact .inl rfl
  | true =>
  refine itF (by show (!isWord n) = false; rw [cw] <;> rfl) ?_
  walk_at "nx"
  refine ts_seq (ts_if (tt_b (te_din ?_)))
  walk_at "rd"
  refine dinq (.inl hp) ?_
  walk_at "rd"
  rw [he.isSome]
  cases cn : mlook m n with
  | some kn =>
    refine itT (by rfl) ?_
    refine ts_raiseI ?_
    walk_at "rd"
    refine raq fun dd H2 _ c e => kE _ _ H2 ?_ c (.inr ⟨_, _, rfl, e⟩)
    rw [rs0, cw, cn]
    exact .inr rfl
  | none =>
  refine itF (by rfl) ?_
  walk_at "nx"
  have rs : rsE m (.ren o n) = .ok := by rw [rs0, cw, cn] <;> rfl
  walk_at "rd"
  obtain ⟨q0, tv0, g1, g2, g3⟩ := he.look_yes co
  refine dgtq (.inl hp) g1 ?_
  walk_at "rd"
  rename_i u H1 n1 c1 e1 pc H2 n2 c2 e2
  have memo := mlook_mem co
  have hp2 : H2 p = some (.dK l) := (c1.trans c2).at0 hp
  refine ts_lock hp2 fun od => ?_
  have cl := Ch.lock (o := od) hp2
  have el : (upd H2 p (.frz od (.dK l))) p = some (.frz od (.dK l)) := upd_same
  generalize hL : upd H2 p (.frz od (.dK l)) = HL at cl el ⊢
  have pcp : pc ≠ p := fun q => by rw [q, c1.at0 hp] at n2; cases n2
  have eL : HL pc = some (.dK []) := cl.at e2 (by simp [pcp])
  walk_at "rd"
  refine keyq el ?_
  walk_at "rd"
  have heL := he.mono ((c1.trans c2).mono (M' := [p]) (by simp) |>.trans cl)
  have uL : SqT K HL u [.str k0, .str o] := cl.sqt (c2.sqt (SqT.of e1))
  have pko : plD (.str k0) = true := kind_pl (gm _ memo).kd
  have poo : plD (.str o) = true := word_pl (gm _ memo).wd
  refine forq walks_keys (fun i σ H' => (∃ v5 v6 v7, σ = [some (.ref p), some (.str o), some (.str n), some (.ref u), some (.ref pc), v5, v6, v7]) ∧ Ch [pc] HL H' ∧ ∃ ys, H' pc = some (.dK ys) ∧ PEnts K H' ys ((m.take i).map fun e => (rk o n e.1, e.2.1, renD k0 o n e.2.2))) ?_ (fun i σ H' h => h.2.1.at el (by simp [pcp.symm])) ?_ ?_
  · exact ⟨⟨_, _, _, rfl⟩, Ch.refl, [], eL, .nil⟩
  · rintro i x σ H' hi ⟨kx, vx, hkv, rfl⟩ ⟨⟨v5, v6, v7, rfl⟩, c, ys, ey, pe⟩
    obtain ⟨y, k, q, tv, d, ekv, em, hq, hd⟩ := (heL.mono c).get hkv
    cases ekv
    rw [show kV (Sum.inr y : Key) = V.str y from rfl]
    walk_at "rd"
    obtain ⟨q', tv', f1, f2, f3⟩ := (heL.mono c).look_yes (mlook_at nd em)
    refine dgtq (.inr ⟨od, c.at el (by simp [pcp.symm])⟩) f1 ?_
    refine g_tup2 f2 ?_
    walk_at "rd"
    have gd := gm _ (List.mem_of_getElem? em)
    have tail : ∀ (Pn : L2.St → Hp → Prop) (rt : VK) (bk ct : L2.St → Hp → Prop) (y' : Str), y' = rk o n y →
        (∀ v5 v6 v7 H5, Ch [pc] HL H5 → (∃ ys, H5 pc = some (.dK ys) ∧ PEnts K H5 ys ((m.take (i + 1)).map fun e => (rk o n e.1, e.2.1, renD k0 o n e.2.2))) → Pn [some (.ref p), some (.str o), some (.str n), some (.ref u), some (.ref pc), v5, v6, v7] H5) →
        (sDPut (tVar 4) (tVar 5) (tTup (tCons (tVar 6) (tCons (tCallR (spRen K 5) (fun _ => E0) (tCons (tVar 7) (tCons (tVar 3) (tCons (tVar 2) tNil)))) tNil)))) ⟨Pn, rt, bk, ct⟩ [some (.ref p), some (.str o), some (.str n), some (.ref u), some (.ref pc), some (.str y'), some (.str k), some tv'] H' := by
      intro Pn rt bk ct y' hy hP
      walk_at "rd"
      have dd : d.depth ≤ 5 := gd.ok.dp
      refine ⟨tv', d, u, k0, o, n, rfl, f3, c.sqt uL, pko, poo, gd.ok.pl, dd, by omega, fun v' H3 hv c3 => ?_⟩
      walk_at "rd"
      rename_i qn H4 n4 c4 e4
      refine dptq (c4.at0 (c3.at0 ey)) (by rw [pe.len, List.length_map, List.length_take]; omega) fun H5 c5 e5 => ?_
      have kno : ∀ e ∈ ys, ¬ e.1 = (Sum.inr y' : Key) := fun e he' q => by
        have : e.1 ∈ ys.map (·.1) := List.mem_map.mpr ⟨e, he', rfl⟩
        rw [pe.keys, List.map_map] at this
        obtain ⟨x, hx, ex⟩ := List.mem_map.mp this
        rw [q] at ex
        have ex' : rk o n x.1 = y' := inr_eq.mp ex
        exact rk_ne nd cn em x hx (ex'.trans hy)
      refine hP _ _ _ H5 (c.trans ((c3.trans c4).nil.trans c5)) ⟨_, e5, ?_⟩
      rw [putK_app kno, take_snoc em, List.map_append]
      subst hy
      exact (((pe.mono c3).mono c4).mono c5).append (.cons (c5.sqt (SqT.of e4)) ((hv.mono c4).mono c5) .nil)
    refine itd (fun ceq => ?_) (fun cne => ?_)
    · walk_at "nx"
      refine ts_asg ?_
      refine te_var rfl ?_
      refine tg_name ?_
      walk_at "nx"
      exact tail _ _ _ _ n (by unfold rk; rw [if_pos ceq]) fun v5 v6 v7 H5 c5 e5 => ⟨⟨_, _, _, rfl⟩, c5, e5⟩
    · walk_at "nx"
      exact tail _ _ _ _ y (by unfold rk; rw [if_neg cne]) fun v5 v6 v7 H5 c5 e5 => ⟨⟨_, _, _, rfl⟩, c5, e5⟩
  · rintro σ H' ⟨⟨v5, v6, v7, rfl⟩, c, ys, ey, pe⟩
    refine ⟨c.at el (by simp [pcp.symm]), ?_⟩
    subst hL
    have e2' := c.at el (by simp [pcp.symm])
    have cu : Ch [p] H' (upd H' p (.dK l)) := Ch.set Ch.refl (List.mem_singleton.mpr rfl) e2' rfl
    have cun : Ch [pc] H2 (upd H' p (.dK l)) := Ch.unlock hp2 c
    have hpc : H pc = none := c1.free n2
    walk_at "rd"
    rw [List.take_of_length_le (by omega)] at pe
    refine kS rs pc _ hpc ⟨⟨ys, by rw [upd_ne pcp]; exact ey, ?_⟩, ?_⟩ (Ch.fresh1 (c1.trans c2) cun hpc)
    · have : renM m o n = m.map fun e => (rk o n e.1, e.2.1, renD k0 o n e.2.2) := by
        unfold renM
        rw [co] <;> rfl
      rw [this]
      exact pe.mono cu
    · have : renM m o n = m.map fun e => (rk o n e.1, e.2.1, renD k0 o n e.2.2) := by
        unfold renM
        rw [co] <;> rfl
      rw [this]
      exact keys_ren nd cn
/-! ### one edit -/
def Ed.dat : Ed → PyData
  | .put z k d => .tuple [.str (PySem.Str.ofString "put"), .str z, .str k, d]
  | .drop z => .tuple [.str (PySem.Str.ofString "drop"), .str z]
  | .ren o n => .tuple [.str (PySem.Str.ofString "rename"), .str o, .str n]
def EdOk (m : PM) : Ed → Prop
  | .put z _ d => OkT d ∧ z.length ≤ 100000 ∧ (m.length < 20 ∨ (mlook m z).isSome = true)
  | .drop _ => True
  | .ren _ n => n.length ≤ 100000
theorem dts2 {K : PySem.W.Frag} {H : Hp} {ws : List V} {a b : PyData} (h : Dts K H ws [a, b]) : ∃ x y, ws = [x, y] ∧ Dt K H x a ∧ Dt K H y b := by
  cases h with
  | cons h1 h => cases h with
    | cons h2 h => cases h; exact ⟨_, _, rfl, h1, h2⟩
theorem dts3 {K : PySem.W.Frag} {H : Hp} {ws : List V} {a b c : PyData} (h : Dts K H ws [a, b, c]) : ∃ x y z, ws = [x, y, z] ∧ Dt K H x a ∧ Dt K H y b ∧ Dt K H z c := by
  cases h with
  | cons h1 h => cases h with
    | cons h2 h => cases h with
      | cons h3 h => cases h; exact ⟨_, _, _, rfl, h1, h2, h3⟩
theorem dts4 {K : PySem.W.Frag} {H : Hp} {ws : List V} {a b c d : PyData} (h : Dts K H ws [a, b, c, d]) : ∃ x y z w, ws = [x, y, z, w] ∧ Dt K H x a ∧ Dt K H y b ∧ Dt K H z c ∧ Dt K H w d := by
  cases h with
  | cons h1 h => cases h with
    | cons h2 h => cases h with
      | cons h3 h => cases h with
        | cons h4 h => cases h; exact ⟨_, _, _, _, rfl, h1, h2, h3, h4⟩
theorem dt_str {K : PySem.W.Frag} {H : Hp} {x : V} {z : Str} (h : Dt K H x (.str z)) : x = .str z := by cases h; rfl
theorem dt_int {K : PySem.W.Frag} {H : Hp} {x : V} {i : Int} (h : Dt K H x (.int i)) : x = .int i := by cases h; rfl
theorem dt_tup {K : PySem.W.Frag} {H : Hp} {x : V} {ds : List PyData} (h : Dt K H x (.tuple ds)) : ∃ a ws, x = .ref a ∧ SqT K H a ws ∧ Dts K H ws ds := by
  cases h with
  | tup h1 h2 => exact ⟨_, _, rfl, h1, h2⟩
def spEdit (K : PySem.W.Frag) : Sp := fun vs H Q E => ∃ p m ev e, vs = [.ref p, ev] ∧ PapAt K H p m ∧ Dt K H ev (Ed.dat e) ∧ GM m ∧ m.length ≤ 1000 ∧ EdOk m e ∧
  (rsE m e = .ok → ∀ p' H', H p' = none → PapAt K H' p' (edM m e) → Ch [] H H' → Q (.ref p') H') ∧ (∀ cls dd H', ExcR K (rsE m e) cls → Ch [] H H' → XdOk dd H' → E cls dd H')
theorem pure_edited {K : PySem.W.Frag} {mg : Str → Option Value} (T : TT K mg) (vs : List V) (H : Hp) (Q : VK) (E : XK) (h : spEdit K vs H Q E) : t_edited K (spPutP K) (spDropP K) (spRenP K) E { nx := fun _ H' => Q .non H', rt := Q } (L2.start N_edited vs) H := by
  obtain ⟨p, m, ev, e, rfl, hp, he, gm, lm, eo, kS, kE⟩ := h
  unfold t_edited
  cases e with
  | put z k d =>
    obtain ⟨a, ws, rfl, hq, hs⟩ := dt_tup he
    obtain ⟨x0, x1, x2, x3, rfl, h0, h1, h2, h3⟩ := dts4 hs
    have := dt_str h0; subst this
    have := dt_str h1; subst this
    have := dt_str h2; subst this
    obtain ⟨ok, lz, room⟩ := eo
    walk_at "rd"
    walk_at "itk"
    walk_at "rd"
    exact ⟨p, m, z, k, x3, d, rfl, hp, h3, ok, lz, room, lm, kS, kE⟩
  | drop z =>
    obtain ⟨a, ws, rfl, hq, hs⟩ := dt_tup he
    obtain ⟨x0, x1, rfl, h0, h1⟩ := dts2 hs
    have := dt_str h0; subst this
    have := dt_str h1; subst this
    walk_at "rd"
    walk_at "itk"
    walk_at "rd"
    walk_at "itk"
    walk_at "rd"
    exact ⟨p, m, z, rfl, hp, lm, kS, kE⟩
  | ren o n =>
    obtain ⟨a, ws, rfl, hq, hs⟩ := dt_tup he
    obtain ⟨x0, x1, x2, rfl, h0, h1, h2⟩ := dts3 hs
    have := dt_str h0; subst this
    have := dt_str h1; subst this
    have := dt_str h2; subst this
    walk_at "rd"
    walk_at "itk"
    walk_at "rd"
    walk_at "itk"
    walk_at "rd"
    exact ⟨p, m, o, n, rfl, hp, gm, lm, eo, kS, kE⟩
end K9
namespace K9
open PySem PySem.Spec PyProof.Rows L2
/-! ### words of tactics -/
local macro_rules | `(tactic| walk_at "hp") => `(tactic| (first
  | assumption | exact upd_same
  | (refine Ch.at0 (H := ?hpH) ?hpc ?hph; (case hpc => assumption); (case hph => walk_at "hp"))
  | (refine Ch.tup (M := ?hpM) (H := ?hpH) ?hpc ?hph; (case hpc => assumption); (case hph => walk_at "hp"))
  | (refine Ch.at (M := ?hpM) (H := ?hpH) ?hpc ?hph ?hpn; (case hpc => assumption); (case hph => walk_at "hp"); (case hpn => walk_at "ni"))
  | fail "hp"))
local macro_rules | `(tactic| walk_at "ni") => `(tactic| (first | exact ni0 | assumption | (refine ni1 ?nia ?nib; (case nia => walk_at "nq"); (case nib => walk_at "ni")) | fail "ni"))
local macro_rules | `(tactic| walk_at "nq") => `(tactic| (first | assumption | exact Ne.symm (by assumption) | (refine ne_of_none (H := ?nqH) (o := ?nqo) ?nqa ?nqb; (case nqb => assumption); (case nqa => walk_at "hp")) | (refine Ne.symm (ne_of_none (H := ?nqH) (o := ?nqo) ?nqa ?nqb); (case nqb => assumption); (case nqa => walk_at "hp")) | fail "nq"))
local macro_rules | `(tactic| walk_at "sq") => `(tactic| (first
  | assumption | exact SqL.of (by assumption)
  | (refine Ch.sql (M := ?sqM) (H := ?sqH) ?sqc ?sqh ?sqn; (case sqc => assumption); (case sqh => walk_at "sq"); (case sqn => walk_at "ni"))
  | fail "sq"))
local macro_rules | `(tactic| walk_at "tq") => `(tactic| (first
  | assumption | exact SqT.of (by assumption)
  | (refine Ch.sqt (M := ?tqM) (H := ?tqH) ?tqc ?tqh; (case tqc => assumption); (case tqh => walk_at "tq"))
  | fail "tq"))
local macro_rules | `(tactic| walk_at "rd1") => `(tactic| (first
  | ((with_reducible refine te_var (v := ?rdw) ?rdv ?_); (case rdv => exact rfl))
  | (with_reducible (first
  | refine te_c ?_ | refine te_op ?_ | refine te_nil ?_ | refine te_cons ?_ | refine te_cb ?_ | refine te_callR ?_ | refine te_tup ?_ | refine te_lst ?_
  | refine ts_seq ?_ | refine ts_asg ?_ | refine tg_name ?_ | refine ts_ret ?_ | refine ts_retN ?_ | refine ts_if ?_ | refine ts_drop ?_ | refine ts_next ?_ | refine tg_sub ?_
  | refine nd_nx ?_ | refine nd_rt ?_ | refine nd_bk ?_ | refine nd_ct ?_
  | refine tt_test ?_ | refine tt_b ?_ | refine tt_and ?_ | refine tt_or ?_ | refine tt_not ?_ | refine blq ?_ | refine inq ?_ | refine iteT ?_ | refine iteF ?_
  | refine te_then ?_ | refine te_if ?_ | refine te_sl ?_ | refine te_part ?_ | refine te_chain ?_ | refine te_andV ?_ | refine te_orV ?_ | refine te_notV ?_ | refine te_un ?_
  | refine te_din ?_ | refine te_dni ?_ | refine te_dgt ?_ | refine ts_dpt ?_ | refine ts_for ?_ | refine ti_rng ?_ | refine ti_rng2 ?_ | refine ti_lst ?_ | refine ti_tup ?_ | refine ti_str ?_ | refine ti_key ?_ | refine strq ?_ | refine te_lc ?_ | refine te_dc ?_ | refine tt_yes ?_
  | refine r_addI ?_ | refine r_I0 ?_ | refine r_eqI ?_ | refine r_eqS ?_ | refine r_neI ?_ | refine r_neS ?_ | refine r_U ?_ | refine r_intI ?_ | refine r_intB ?_))
  | ((with_reducible refine r_ixL (xs := ?rdx) (v := ?rdw) ?rdh ?rde ?_); (case rdh => walk_at "sq"); (case rde => exact rfl))
  | ((with_reducible refine r_ixT (xs := ?rdx) (v := ?rdw) ?rdh ?rde ?_); (case rdh => walk_at "tq"); (case rde => exact rfl))
  | ((with_reducible refine r_lenL (xs := ?rdx) ?rdh ?_); (case rdh => walk_at "sq"))
  | ((with_reducible refine r_lenT (xs := ?rdx) ?rdh ?_); (case rdh => walk_at "tq"))
  | ((with_reducible refine r_lenD (kvs := ?rdx) ?rdh ?_); (case rdh => walk_at "hp"))
  | ((with_reducible refine r_set' (xs := ?rdx) (j := ?rdj) ?rdh ?rde ?_); (case rdh => walk_at "hp"); (case rde => exact rfl); (intro rH rc rh))
  | ((with_reducible refine newT ?rdc ?_); (case rdc => (simp; done)); (intro rp rH rn rc rh))
  | ((with_reducible refine newL ?rdc ?_); (case rdc => (simp; done)); (intro rp rH rn rc rh))
  | ((with_reducible refine te_dnw ?_); (intro rp rH rn rc rh))
  | ((with_reducible refine lisq (xs := ?rdx) ?rdh ?_); (case rdh => walk_at "sq"))
  | ((with_reducible refine tupq (xs := ?rdx) ?rdh ?_); (case rdh => walk_at "tq"))
  | ((with_reducible refine rngq ?rdc ?_); (case rdc => walk_at "sd"))
  | ((with_reducible refine r_I ?rdc ?_); (case rdc => walk_at "sd"))
  | ((with_reducible refine r_mulI ?rdc ?_); (case rdc => omega))
  | fail "rd"))
local macro_rules | `(tactic| walk_at "sd") => `(tactic| (first | (constructor <;> omega) | omega | decide | (refine ⟨?_, ?_, ?_⟩ <;> decide)))
local macro_rules | `(tactic| walk_at "rd") => `(tactic| repeat (walk_at "rd1"))
local macro_rules | `(tactic| walk_at "ch") => `(tactic| (first
  | assumption | exact Ch.refl | exact Ch.nil (by assumption)
  | (refine Ch.trans (H1 := ?chm) ?cha ?chb; (case chb => (first | assumption | exact Ch.nil (by assumption) | (refine Ch.mono (M := ?chl) ?chx ?chy; (case chx => assumption); (case chy => (intro _ chz; simp at chz ⊢; simp [chz]))))); (case cha => walk_at "ch"))
  | fail "ch"))
local macro_rules | `(tactic| walk_at "nx") => `(tactic| repeat (with_reducible (first | refine ts_next ?_ | refine nd_nx ?_)))
local macro_rules | `(tactic| walk_at "dm") => `(tactic| (first | assumption | (refine Dt.mono (M := ?dmM) (H := ?dmH) ?dmc ?dmh; (case dmc => assumption); (case dmh => walk_at "dm")) | fail "dm"))
local macro_rules | `(tactic| walk_at "dt") => `(tactic| (first | exact Dt.int _ | exact Dt.str _ | exact Dt.bl _ | exact Dt.non | walk_at "dm" | (refine Dt.tup (xs := ?dtx) ?dta ?dtb; (case dta => walk_at "tq"); (case dtb => walk_at "dts")) | fail "dt"))
local macro_rules | `(tactic| walk_at "dsm") => `(tactic| (first | assumption | (refine Dts.mono (M := ?dmM) (H := ?dmH) ?dmc ?dmh; (case dmc => assumption); (case dmh => walk_at "dsm")) | fail "dsm"))
local macro_rules | `(tactic| walk_at "dts") => `(tactic| (first | exact Dts.nil | walk_at "dsm" | (refine Dts.cons ?dtsa ?dtsb; (case dtsa => walk_at "dt"); (case dtsb => walk_at "dts")) | fail "dts"))
local macro_rules | `(tactic| walk_at "it") => `(tactic| (first | refine itT (by rfl) ?_ | refine itF (by rfl) ?_ | fail "it"))
local macro_rules | `(tactic| walk_at "if") => `(tactic| with_reducible (first | refine iteF ?_ | refine iteT ?_))
local macro_rules | `(tactic| walk_at "itk") => `(tactic| (first | (refine itT ?itk ?_; (case itk => decide +kernel)) | (refine itF ?itk ?_; (case itk => decide +kernel)) | fail "itk"))
/-! The desk as an object: its fields, its steps. -/
def FldQ (K : PySem.W.Frag) (f : Str) (k : Hp → Prop) (x y : V) (H : Hp) : Prop := ∃ a C dx fs, x = .ref a ∧ H a = some (.ins C dx fs) ∧ Cls K C ∧ NoAttr K C f ∧ fs.length < 1000 ∧ k (upd H a (.ins C dx (putF f y fs)))
def GetQ (K : PySem.W.Frag) (f : Str) (Q : VK) (x : V) (H : Hp) : Prop := ∃ a C dx fs v, x = .ref a ∧ H a = some (.ins C dx fs) ∧ Cls K C ∧ NoAttr K C f ∧ fs.lookup f = some v ∧ Q v H
def AppQ (K : PySem.W.Frag) (t : TA) (σ : L2.St) (Q : VK) (x : V) (H : Hp) : Prop := tyV K "list" x H ∧ t σ H fun xs H2 => rAppend x xs H2 Q
def PopQ (K : PySem.W.Frag) (Q : VK) (x : V) (H : Hp) : Prop := tyV K "list" x H ∧ rPop x [] H Q
section
variable {K : PySem.W.Frag} {σ : L2.St} {H : Hp} {Q : VK} {D : Ends} {ta tv : TE} {f : Str} {a C dx : Addr} {fs : List (Str × V)} {v y : V}
theorem ts_fld (k : tv σ H fun y H1 => ta σ H1 fun x H2 => FldQ K f (D.nx σ) x y H2) : sFld K ta tv f D σ H := by
  have e : sFld K ta tv f D σ H = (tv σ H fun y H1 => ta σ H1 fun x H2 => FldQ K f (D.nx σ) x y H2) := rfl
  rw [e]
  exact k
theorem te_fld (k : ta σ H fun x H1 => GetQ K f Q x H1) : tFld K ta f σ H Q := k
theorem fldq {k : Hp → Prop} (h : H a = some (.ins C dx fs)) (c : Cls K C) (n : NoAttr K C f) (hl : fs.length < 1000) (q : ∀ H2, Ch [a] H H2 → H2 a = some (.ins C dx (putF f y fs)) → k H2) : FldQ K f k (.ref a) y H :=
  ⟨a, C, dx, fs, rfl, h, c, n, hl, q _ (Ch.set Ch.refl (List.mem_singleton.mpr rfl) h rfl) upd_same⟩
theorem getq (h : H a = some (.ins C dx fs)) (c : Cls K C) (n : NoAttr K C f) (l : fs.lookup f = some v) (k : Q v H) : GetQ K f Q (.ref a) H := ⟨a, C, dx, fs, v, rfl, h, c, n, l, k⟩
theorem te_pop {to : TE} (k : to σ H fun x H1 => PopQ K Q x H1) : tBM0 K "list" rPop to σ H Q := k
theorem popq {p : Addr} {xs : List V} {x : V} (h : H p = some (.lst (xs ++ [x]))) (k : ∀ H2, Ch [p] H H2 → H2 p = some (.lst xs) → Q x H2) : PopQ K Q (.ref p) H :=
  ⟨.inl ⟨rfl, _, SqL.of h⟩, p, xs ++ [x], x, rfl, rfl, h, by simp, by
    have e : (xs ++ [x]).dropLast = xs := by simp
    rw [e]
    exact k _ (Ch.set Ch.refl (List.mem_singleton.mpr rfl) h rfl) upd_same⟩
end
/-! ### the fields -/
abbrev gD (K : PySem.W.Frag) : Addr := He.ga K "Desk"
def dfl (n : Int) (pp dl ul : Addr) (lim : Int) : List (Str × V) := [("outcomes", .int n), ("_papers", .ref pp), ("_done", .ref dl), ("_undone", .ref ul), ("_limit", .int lim)]
theorem pf_papers (n : Int) (pp dl ul q : Addr) (lim : Int) : putF "_papers" (.ref q) (dfl n pp dl ul lim) = dfl n q dl ul lim := by kernel_rfl
theorem pf_done (n : Int) (pp dl ul q : Addr) (lim : Int) : putF "_done" (.ref q) (dfl n pp dl ul lim) = dfl n pp q ul lim := by kernel_rfl
theorem pf_undone (n : Int) (pp dl ul q : Addr) (lim : Int) : putF "_undone" (.ref q) (dfl n pp dl ul lim) = dfl n pp dl q lim := by kernel_rfl
theorem pf_limit (n : Int) (pp dl ul : Addr) (lim q : Int) : putF "_limit" (.int q) (dfl n pp dl ul lim) = dfl n pp dl ul q := by kernel_rfl
theorem lk_papers (n : Int) (pp dl ul : Addr) (lim : Int) : (dfl n pp dl ul lim).lookup ("_papers" : Str) = some (.ref pp) := by kernel_rfl
theorem lk_done (n : Int) (pp dl ul : Addr) (lim : Int) : (dfl n pp dl ul lim).lookup ("_done" : Str) = some (.ref dl) := by kernel_rfl
theorem lk_undone (n : Int) (pp dl ul : Addr) (lim : Int) : (dfl n pp dl ul lim).lookup ("_undone" : Str) = some (.ref ul) := by kernel_rfl
theorem lk_limit (n : Int) (pp dl ul : Addr) (lim : Int) : (dfl n pp dl ul lim).lookup ("_limit" : Str) = some (.int lim) := by kernel_rfl
theorem lk_meth (n : Int) (pp dl ul : Addr) (lim : Int) : (dfl n pp dl ul lim).lookup ("_paper" : Str) = none ∧ (dfl n pp dl ul lim).lookup ("_take_step" : Str) = none ∧ (dfl n pp dl ul lim).lookup ("keep" : Str) = none ∧ (dfl n pp dl ul lim).lookup ("kind_of" : Str) = none ∧ (dfl n pp dl ul lim).lookup ("term_of" : Str) = none ∧
    (dfl n pp dl ul lim).lookup ("put" : Str) = none ∧ (dfl n pp dl ul lim).lookup ("drop" : Str) = none ∧ (dfl n pp dl ul lim).lookup ("rename" : Str) = none ∧ (dfl n pp dl ul lim).lookup ("run" : Str) = none ∧ (dfl n pp dl ul lim).lookup ("undo" : Str) = none ∧ (dfl n pp dl ul lim).lookup ("redo" : Str) = none := by
  refine ⟨?_, ?_, ?_, ?_, ?_, ?_, ?_, ?_, ?_, ?_, ?_⟩ <;> kernel_rfl
section
variable {K : PySem.W.Frag} {mg : Str → Option Value} (T : TT K mg) {H : Hp} {Q : VK} {k : Hp → Prop} {dk dx pp dl ul q : Addr} {n lim i : Int}
include T
theorem gt_papers (h : H dk = some (.ins (gD K) dx (dfl n pp dl ul lim))) (z : Q (.ref pp) H) : GetQ K "_papers" Q (.ref dk) H := getq h (cl_Desk T) (na_Desk__papers T) (lk_papers n pp dl ul lim) z
theorem gt_done (h : H dk = some (.ins (gD K) dx (dfl n pp dl ul lim))) (z : Q (.ref dl) H) : GetQ K "_done" Q (.ref dk) H := getq h (cl_Desk T) (na_Desk__done T) (lk_done n pp dl ul lim) z
theorem gt_undone (h : H dk = some (.ins (gD K) dx (dfl n pp dl ul lim))) (z : Q (.ref ul) H) : GetQ K "_undone" Q (.ref dk) H := getq h (cl_Desk T) (na_Desk__undone T) (lk_undone n pp dl ul lim) z
theorem gt_limit (h : H dk = some (.ins (gD K) dx (dfl n pp dl ul lim))) (z : Q (.int lim) H) : GetQ K "_limit" Q (.ref dk) H := getq h (cl_Desk T) (na_Desk__limit T) (lk_limit n pp dl ul lim) z
theorem st_papers (h : H dk = some (.ins (gD K) dx (dfl n pp dl ul lim))) (z : ∀ H2, Ch [dk] H H2 → H2 dk = some (.ins (gD K) dx (dfl n q dl ul lim)) → k H2) : FldQ K "_papers" k (.ref dk) (.ref q) H := fldq h (cl_Desk T) (na_Desk__papers T) (by show 5 < 1000; decide) fun H2 c e => z H2 c (by rw [e, pf_papers])
theorem st_done (h : H dk = some (.ins (gD K) dx (dfl n pp dl ul lim))) (z : ∀ H2, Ch [dk] H H2 → H2 dk = some (.ins (gD K) dx (dfl n pp q ul lim)) → k H2) : FldQ K "_done" k (.ref dk) (.ref q) H := fldq h (cl_Desk T) (na_Desk__done T) (by show 5 < 1000; decide) fun H2 c e => z H2 c (by rw [e, pf_done])
theorem st_undone (h : H dk = some (.ins (gD K) dx (dfl n pp dl ul lim))) (z : ∀ H2, Ch [dk] H H2 → H2 dk = some (.ins (gD K) dx (dfl n pp dl q lim)) → k H2) : FldQ K "_undone" k (.ref dk) (.ref q) H := fldq h (cl_Desk T) (na_Desk__undone T) (by show 5 < 1000; decide) fun H2 c e => z H2 c (by rw [e, pf_undone])
theorem st_limit (h : H dk = some (.ins (gD K) dx (dfl n pp dl ul lim))) (z : ∀ H2, Ch [dk] H H2 → H2 dk = some (.ins (gD K) dx (dfl n pp dl ul i)) → k H2) : FldQ K "_limit" k (.ref dk) (.int i) H := fldq h (cl_Desk T) (na_Desk__limit T) (by show 5 < 1000; decide) fun H2 c e => z H2 c (by rw [e, pf_limit])
end
/-! ### the last so many -/
def lastN {α : Type} (L : Nat) (xs : List α) : List α := xs.drop (xs.length - L)
theorem cut_last {xs : List V} {L : Int} (h : 1 ≤ L) (hz : xs.length ≤ 100000) : cutV xs (some (-L)) none = lastN L.toNat xs := by
  unfold cutV lastN
  have e1 : HT.sIx xs.length xs.length none = xs.length := rfl
  have e2 : HT.sIx xs.length 0 (some (-L)) = xs.length - L.toNat := by
    show (if -L < 0 then (-L + (xs.length : Int)).toNat else min (-L).toNat xs.length) = _
    rw [if_pos (by omega)]
    omega
  rw [e1, e2, List.take_of_length_le (by rw [List.length_drop]; omega)]
end K9
namespace K9
open PySem PySem.Spec PyProof.Rows L2
/-! ### words of tactics -/
local macro_rules | `(tactic| walk_at "hp") => `(tactic| (first
  | assumption | exact upd_same
  | (refine Ch.at0 (H := ?hpH) ?hpc ?hph; (case hpc => assumption); (case hph => walk_at "hp"))
  | (refine Ch.tup (M := ?hpM) (H := ?hpH) ?hpc ?hph; (case hpc => assumption); (case hph => walk_at "hp"))
  | (refine Ch.at (M := ?hpM) (H := ?hpH) ?hpc ?hph ?hpn; (case hpc => assumption); (case hph => walk_at "hp"); (case hpn => walk_at "ni"))
  | fail "hp"))
local macro_rules | `(tactic| walk_at "ni") => `(tactic| (first | exact ni0 | assumption | (refine ni1 ?nia ?nib; (case nia => walk_at "nq"); (case nib => walk_at "ni")) | fail "ni"))
local macro_rules | `(tactic| walk_at "nq") => `(tactic| (first | assumption | exact Ne.symm (by assumption) | (refine ne_of_none (H := ?nqH) (o := ?nqo) ?nqa ?nqb; (case nqb => assumption); (case nqa => walk_at "hp")) | (refine Ne.symm (ne_of_none (H := ?nqH) (o := ?nqo) ?nqa ?nqb); (case nqb => assumption); (case nqa => walk_at "hp")) | fail "nq"))
local macro_rules | `(tactic| walk_at "sq") => `(tactic| (first
  | assumption | exact SqL.of (by assumption)
  | (refine Ch.sql (M := ?sqM) (H := ?sqH) ?sqc ?sqh ?sqn; (case sqc => assumption); (case sqh => walk_at "sq"); (case sqn => walk_at "ni"))
  | fail "sq"))
local macro_rules | `(tactic| walk_at "tq") => `(tactic| (first
  | assumption | exact SqT.of (by assumption)
  | (refine Ch.sqt (M := ?tqM) (H := ?tqH) ?tqc ?tqh; (case tqc => assumption); (case tqh => walk_at "tq"))
  | fail "tq"))
local macro_rules | `(tactic| walk_at "rd1") => `(tactic| (first
  | ((with_reducible refine te_var (v := ?rdw) ?rdv ?_); (case rdv => exact rfl))
  | (with_reducible (first
  | refine te_c ?_ | refine te_op ?_ | refine te_nil ?_ | refine te_cons ?_ | refine te_cb ?_ | refine te_callR ?_ | refine te_tup ?_ | refine te_lst ?_
  | refine ts_seq ?_ | refine ts_asg ?_ | refine tg_name ?_ | refine ts_ret ?_ | refine ts_retN ?_ | refine ts_if ?_ | refine ts_drop ?_ | refine ts_next ?_ | refine tg_sub ?_
  | refine nd_nx ?_ | refine nd_rt ?_ | refine nd_bk ?_ | refine nd_ct ?_
  | refine tt_test ?_ | refine tt_b ?_ | refine tt_and ?_ | refine tt_or ?_ | refine tt_not ?_ | refine blq ?_ | refine inq ?_ | refine iteT ?_ | refine iteF ?_
  | refine te_then ?_ | refine te_if ?_ | refine te_sl ?_ | refine te_part ?_ | refine te_chain ?_ | refine te_andV ?_ | refine te_orV ?_ | refine te_notV ?_ | refine te_un ?_
  | refine te_din ?_ | refine te_dni ?_ | refine te_dgt ?_ | refine ts_dpt ?_ | refine ts_for ?_ | refine ti_rng ?_ | refine ti_rng2 ?_ | refine ti_lst ?_ | refine ti_tup ?_ | refine ti_str ?_ | refine ti_key ?_ | refine strq ?_ | refine te_lc ?_ | refine te_dc ?_ | refine tt_yes ?_
  | refine r_addI ?_ | refine r_I0 ?_ | refine r_eqI ?_ | refine r_eqS ?_ | refine r_neI ?_ | refine r_neS ?_ | refine r_U ?_ | refine r_intI ?_ | refine r_intB ?_))
  | ((with_reducible refine r_ixL (xs := ?rdx) (v := ?rdw) ?rdh ?rde ?_); (case rdh => walk_at "sq"); (case rde => exact rfl))
  | ((with_reducible refine r_ixT (xs := ?rdx) (v := ?rdw) ?rdh ?rde ?_); (case rdh => walk_at "tq"); (case rde => exact rfl))
  | ((with_reducible refine r_lenL (xs := ?rdx) ?rdh ?_); (case rdh => walk_at "sq"))
  | ((with_reducible refine r_lenT (xs := ?rdx) ?rdh ?_); (case rdh => walk_at "tq"))
  | ((with_reducible refine r_lenD (kvs := ?rdx) ?rdh ?_); (case rdh => walk_at "hp"))
  | ((with_reducible refine r_set' (xs := ?rdx) (j := ?rdj) ?rdh ?rde ?_); (case rdh => walk_at "hp"); (case rde => exact rfl); (intro rH rc rh))
  | ((with_reducible refine newT ?rdc ?_); (case rdc => (simp; done)); (intro rp rH rn rc rh))
  | ((with_reducible refine newL ?rdc ?_); (case rdc => (simp; done)); (intro rp rH rn rc rh))
  | ((with_reducible refine te_dnw ?_); (intro rp rH rn rc rh))
  | ((with_reducible refine lisq (xs := ?rdx) ?rdh ?_); (case rdh => walk_at "sq"))
  | ((with_reducible refine tupq (xs := ?rdx) ?rdh ?_); (case rdh => walk_at "tq"))
  | ((with_reducible refine rngq ?rdc ?_); (case rdc => walk_at "sd"))
  | ((with_reducible refine r_I ?rdc ?_); (case rdc => walk_at "sd"))
  | ((with_reducible refine r_mulI ?rdc ?_); (case rdc => omega))
  | fail "rd"))
local macro_rules | `(tactic| walk_at "sd") => `(tactic| (first | (constructor <;> omega) | omega | decide | (refine ⟨?_, ?_, ?_⟩ <;> decide)))
local macro_rules | `(tactic| walk_at "rd") => `(tactic| repeat (walk_at "rd1"))
local macro_rules | `(tactic| walk_at "ch") => `(tactic| (first
  | assumption | exact Ch.refl | exact Ch.nil (by assumption)
  | (refine Ch.trans (H1 := ?chm) ?cha ?chb; (case chb => (first | assumption | exact Ch.nil (by assumption) | (refine Ch.mono (M := ?chl) ?chx ?chy; (case chx => assumption); (case chy => (intro _ chz; simp at chz ⊢; simp [chz]))))); (case cha => walk_at "ch"))
  | fail "ch"))
local macro_rules | `(tactic| walk_at "nx") => `(tactic| repeat (with_reducible (first | refine ts_next ?_ | refine nd_nx ?_)))
local macro_rules | `(tactic| walk_at "dm") => `(tactic| (first | assumption | (refine Dt.mono (M := ?dmM) (H := ?dmH) ?dmc ?dmh; (case dmc => assumption); (case dmh => walk_at "dm")) | fail "dm"))
local macro_rules | `(tactic| walk_at "dt") => `(tactic| (first | exact Dt.int _ | exact Dt.str _ | exact Dt.bl _ | exact Dt.non | walk_at "dm" | (refine Dt.tup (xs := ?dtx) ?dta ?dtb; (case dta => walk_at "tq"); (case dtb => walk_at "dts")) | fail "dt"))
local macro_rules | `(tactic| walk_at "dsm") => `(tactic| (first | assumption | (refine Dts.mono (M := ?dmM) (H := ?dmH) ?dmc ?dmh; (case dmc => assumption); (case dmh => walk_at "dsm")) | fail "dsm"))
local macro_rules | `(tactic| walk_at "dts") => `(tactic| (first | exact Dts.nil | walk_at "dsm" | (refine Dts.cons ?dtsa ?dtsb; (case dtsa => walk_at "dt"); (case dtsb => walk_at "dts")) | fail "dts"))
local macro_rules | `(tactic| walk_at "it") => `(tactic| (first | refine itT (by rfl) ?_ | refine itF (by rfl) ?_ | fail "it"))
local macro_rules | `(tactic| walk_at "if") => `(tactic| with_reducible (first | refine iteF ?_ | refine iteT ?_))
local macro_rules | `(tactic| walk_at "itk") => `(tactic| (first | (refine itT ?itk ?_; (case itk => decide +kernel)) | (refine itF ?itk ?_; (case itk => decide +kernel)) | fail "itk"))
local macro_rules | `(tactic| walk_at "rd1") => `(tactic| (first
  | (with_reducible (first | refine ts_fld ?_ | refine te_fld ?_ | refine te_app ?_ | refine te_pop ?_))
  | ((with_reducible refine' gt_papers ?rdt ?rdh ?rdk); (case rdt => assumption); (case rdh => walk_at "hp"))
  | ((with_reducible refine' gt_done ?rdt ?rdh ?rdk); (case rdt => assumption); (case rdh => walk_at "hp"))
  | ((with_reducible refine' gt_undone ?rdt ?rdh ?rdk); (case rdt => assumption); (case rdh => walk_at "hp"))
  | ((with_reducible refine' gt_limit ?rdt ?rdh ?rdk); (case rdt => assumption); (case rdh => walk_at "hp"))
  | ((with_reducible refine' st_papers ?rdt ?rdh ?rdk); (case rdt => assumption); (case rdh => walk_at "hp"); (intro rH rc rh))
  | ((with_reducible refine' st_done ?rdt ?rdh ?rdk); (case rdt => assumption); (case rdh => walk_at "hp"); (intro rH rc rh))
  | ((with_reducible refine' st_undone ?rdt ?rdh ?rdk); (case rdt => assumption); (case rdh => walk_at "hp"); (intro rH rc rh))
  | ((with_reducible refine' st_limit ?rdt ?rdh ?rdk); (case rdt => assumption); (case rdh => walk_at "hp"); (intro rH rc rh))
  | fail "rdD"))
/-! The desk's methods by addresses. -/
structure DkA (K : PySem.W.Frag) (H : Hp) (dk : Addr) (n : Int) (pp dl ul : Addr) (dn un : List Addr) (lim : Int) : Prop where
  ob : ∃ dx, H dk = some (.ins (gD K) dx (dfl n pp dl ul lim))
  dls : H dl = some (.lst (dn.map V.ref))
  uls : H ul = some (.lst (un.map V.ref))
  ne : dl ≠ ul
  l1 : 1 ≤ lim
  l2 : lim ≤ 100
  dz : dn.length ≤ 100
  uz : un.length ≤ 100
theorem lastN_len {α : Type} (L : Nat) (xs : List α) : (lastN L xs).length ≤ L := by unfold lastN; rw [List.length_drop]; omega
theorem lastN_map {α β : Type} (L : Nat) (xs : List α) (f : α → β) : lastN L (xs.map f) = (lastN L xs).map f := by unfold lastN; rw [List.length_map, List.map_drop]
theorem r_slL {K : PySem.W.Frag} {p : Addr} {xs : List V} {L : Int} {H : Hp} {Q : VK} (h : SqL K H p xs) (hL : 1 ≤ L) (hz : xs.length ≤ 100000) (k : ∀ l H2, H l = none → Ch [] H H2 → H2 l = some (.lst (lastN L.toNat xs)) → Q (.ref l) H2) : rSlG K (.ref p) (some (-L)) none H Q :=
  .inl ⟨p, xs, rfl, h, fun l hl => k l _ hl (Ch.new hl) (by rw [cut_last hL hz]; exact upd_same)⟩
/-- self._take_step(papers) -/
def spTake (K : PySem.W.Frag) : Sp := fun vs H Q _ => ∃ dk n pp dl ul dn un lim p', vs = [.ref dk, .ref p'] ∧ DkA K H dk n pp dl ul dn un lim ∧
  ∀ dl' ul' H', H dl' = none → H ul' = none → DkA K H' dk n p' dl' ul' (lastN lim.toNat (dn ++ [pp])) [] lim → Ch [dk, dl] H H' → Q .non H'
theorem pure_take {K : PySem.W.Frag} {mg : Str → Option Value} (T : TT K mg) (vs : List V) (H : Hp) (Q : VK) (E : XK) (h : spTake K vs H Q E) : t_Desk__take_step K { nx := fun _ H' => Q .non H', rt := Q } (L2.start N_Desk__take_step vs) H := by
  obtain ⟨dk, n, pp, dl, ul, dn, un, lim, p', rfl, D, k⟩ := h
  obtain ⟨⟨dx, ob⟩, dls, uls, ne, l1, l2, dz, uz⟩ := D
  have kd : dk ≠ dl := ne_of ob dls (by intro z; cases z)
  have ku : dk ≠ ul := ne_of ob uls (by intro z; cases z)
  unfold t_Desk__take_step
  walk_at "rd"
  refine apq dls ?_
  walk_at "rd"
  refine r_app dls (by rw [List.length_map]; omega) fun H1 c1 e1 => ?_
  walk_at "rd"
  refine r_slL (SqL.of e1) l1 (by simp; omega) fun d2 H2 n2 c2 e2 => ?_
  walk_at "rd"
  rename_i H3 c3 h3 ul' H4 n4 c4 h4 H5 c5 h5 H6 c6 h6
  have e2' : H2 d2 = some (.lst ((lastN lim.toNat (dn ++ [pp])).map V.ref)) := by
    rw [e2, ← lastN_map, List.map_append] <;> rfl
  have kd2 : d2 ≠ dk := (ne_of_none (c1.at ob (by simp [kd])) n2).symm
  have ku2 : ul' ≠ dk := (ne_of_none h3 n4).symm
  have e3 : H3 d2 = some (.lst ((lastN lim.toNat (dn ++ [pp])).map V.ref)) := c3.at e2' (by simp [kd2])
  have ne2 : d2 ≠ ul' := ne_of_none e3 n4
  have C : Ch [dk, dl] H H3 := ((c1.mono (by simp)).step c2).trans (c3.mono (by simp))
  have C2 : Ch [dk, dl] H H6 := ((C.step c4).trans (c5.mono (by simp))).trans (c6.mono (by simp))
  refine k d2 ul' H6 (c1.free n2) (C.free n4) ⟨⟨dx, h6⟩, ?_, ?_, ne2, l1, l2, ?_, by simp⟩ C2
  · exact c6.at (c5.at (c4.at0 e3) (by simp [kd2])) (by simp [kd2])
  · exact c6.at (c5.at h4 (by simp [ku2])) (by simp [ku2])
  · exact Nat.le_trans (lastN_len _ _) (by omega)
/-! ### the steps back and forth -/
def spUndo (K : PySem.W.Frag) : Sp := fun vs H Q E => ∃ dk n pp dl ul dn un lim, vs = [.ref dk] ∧ DkA K H dk n pp dl ul dn un lim ∧ (dn ≠ [] → un.length < 100) ∧
  (dn = [] → E (.ref (He.ga K "NoStep")) none H) ∧ (∀ dn0 x, dn = dn0 ++ [x] → ∀ H', DkA K H' dk n x dl ul dn0 (un ++ [pp]) lim → Ch [dk, dl, ul] H H' → Q .non H')
def spRedo (K : PySem.W.Frag) : Sp := fun vs H Q E => ∃ dk n pp dl ul dn un lim, vs = [.ref dk] ∧ DkA K H dk n pp dl ul dn un lim ∧
  (un = [] → E (.ref (He.ga K "NoStep")) none H) ∧ (∀ un0 x, un = un0 ++ [x] → ∀ dl' H', H dl' = none → DkA K H' dk n x dl' ul (lastN lim.toNat (dn ++ [pp])) un0 lim → Ch [dk, dl, ul] H H' → Q .non H')
theorem snoc_of {α : Type} : ∀ (xs : List α), xs = [] ∨ ∃ ys y, xs = ys ++ [y]
  | [] => .inl rfl
  | x :: r => .inr ⟨(x :: r).dropLast, (x :: r).getLast (by simp), (List.dropLast_concat_getLast (by simp)).symm⟩
theorem pure_undo {K : PySem.W.Frag} {mg : Str → Option Value} (T : TT K mg) (vs : List V) (H : Hp) (Q : VK) (E : XK) (h : spUndo K vs H Q E) : t_Desk_undo K E { nx := fun _ H' => Q .non H', rt := Q } (L2.start N_Desk_undo vs) H := by
  obtain ⟨dk, n, pp, dl, ul, dn, un, lim, rfl, ⟨⟨dx, ob⟩, dls, uls, ne, l1, l2, dz, uz⟩, lu, kE, kS⟩ := h
  have kd : dk ≠ dl := ne_of ob dls (by intro z; cases z)
  have ku : dk ≠ ul := ne_of ob uls (by intro z; cases z)
  unfold t_Desk_undo
  walk_at "rd"
  rcases snoc_of dn with rfl | ⟨dn0, x, rfl⟩
  · refine itT (by rfl) ?_
    exact ts_raiseO (kE rfl)
  have lu := lu (by simp)
  refine itF (decide_eq_false (by simp; omega)) ?_
  walk_at "nx"
  walk_at "rd"
  refine apq uls ?_
  walk_at "rd"
  refine r_app uls (by rw [List.length_map]; omega) fun H1 c1 e1 => ?_
  walk_at "rd"
  have d1 : H1 dl = some (.lst (dn0.map V.ref ++ [V.ref x])) := by rw [c1.at dls (by simp [ne]), List.map_append] <;> rfl
  have o1 := c1.at ob (by simp [ku])
  refine popq d1 fun H2 c2 e2 => ?_
  walk_at "rd"
  rename_i H3 c3 h3
  refine kS dn0 x rfl H3 ⟨⟨dx, h3⟩, ?_, ?_, ne, l1, l2, by simp at dz; omega, by simp; omega⟩ (((c1.mono (by simp)).trans (c2.mono (by simp))).trans (c3.mono (by simp)))
  · exact c3.at e2 (by simp [kd.symm])
  · rw [c3.at (c2.at e1 (by simp [ne.symm])) (by simp [ku.symm]), List.map_append] <;> rfl
theorem pure_redo {K : PySem.W.Frag} {mg : Str → Option Value} (T : TT K mg) (vs : List V) (H : Hp) (Q : VK) (E : XK) (h : spRedo K vs H Q E) : t_Desk_redo K E { nx := fun _ H' => Q .non H', rt := Q } (L2.start N_Desk_redo vs) H := by
  obtain ⟨dk, n, pp, dl, ul, dn, un, lim, rfl, ⟨⟨dx, ob⟩, dls, uls, ne, l1, l2, dz, uz⟩, kE, kS⟩ := h
  have kd : dk ≠ dl := ne_of ob dls (by intro z; cases z)
  have ku : dk ≠ ul := ne_of ob uls (by intro z; cases z)
  unfold t_Desk_redo
  walk_at "rd"
  rcases snoc_of un with rfl | ⟨un0, x, rfl⟩
  · refine itT (by rfl) ?_
    exact ts_raiseO (kE rfl)
  refine itF (decide_eq_false (by simp; omega)) ?_
  walk_at "nx"
  walk_at "rd"
  refine apq dls ?_
  walk_at "rd"
  refine r_app dls (by rw [List.length_map]; omega) fun H1 c1 e1 => ?_
  walk_at "rd"
  refine r_slL (SqL.of e1) l1 (by simp; omega) fun d2 H2 n2 c2 e2 => ?_
  walk_at "rd"
  rename_i H3 c3 h3
  have e2' : H2 d2 = some (.lst ((lastN lim.toNat (dn ++ [pp])).map V.ref)) := by
    rw [e2, ← lastN_map, List.map_append] <;> rfl
  have o1 := c1.at ob (by simp [kd])
  have u1 := c1.at uls (by simp [ne.symm])
  have kd2 : d2 ≠ dk := (ne_of_none o1 n2).symm
  have ud2 : d2 ≠ ul := (ne_of_none u1 n2).symm
  have u3 : H3 ul = some (.lst (un0.map V.ref ++ [V.ref x])) := by rw [c3.at (c2.at0 u1) (by simp [ku.symm]), List.map_append] <;> rfl
  refine popq u3 fun H4 c4 e4 => ?_
  walk_at "rd"
  rename_i H5 c5 h5
  refine kS un0 x rfl d2 H5 (c1.free n2) ⟨⟨dx, h5⟩, ?_, ?_, ud2, l1, l2, Nat.le_trans (lastN_len _ _) (by omega), by simp at uz; omega⟩ (((((c1.mono (by simp)).step c2).trans (c3.mono (by simp))).trans (c4.mono (by simp))).trans (c5.mono (by simp)))
  · exact c5.at (c4.at (c3.at e2' (by simp [kd2])) (by simp [ud2])) (by simp [kd2])
  · exact c5.at e4 (by simp [ku.symm])
/-! ### the limit -/
def spLimSet (K : PySem.W.Frag) : Sp := fun vs H Q E => ∃ dk n pp dl ul dn un lim i, vs = [.ref dk, .int i] ∧ DkA K H dk n pp dl ul dn un lim ∧
  (¬ (1 ≤ i ∧ i ≤ 100) → E (.ref (He.ga K "OutOfRange")) none H) ∧ (1 ≤ i → i ≤ 100 → ∀ dl' H', H dl' = none → DkA K H' dk n pp dl' ul (lastN i.toNat dn) un i → Ch [dk] H H' → Q .non H')
theorem pure_limset {K : PySem.W.Frag} {mg : Str → Option Value} (T : TT K mg) (vs : List V) (H : Hp) (Q : VK) (E : XK) (h : spLimSet K vs H Q E) : t_Desk_limit_set K E { nx := fun _ H' => Q .non H', rt := Q } (L2.start N_Desk_limit_set vs) H := by
  obtain ⟨dk, n, pp, dl, ul, dn, un, lim, i, rfl, ⟨⟨dx, ob⟩, dls, uls, ne, l1, l2, dz, uz⟩, kE, kS⟩ := h
  have kd : dk ≠ dl := ne_of ob dls (by intro z; cases z)
  have ku : dk ≠ ul := ne_of ob uls (by intro z; cases z)
  unfold t_Desk_limit_set
  walk_at "rd"
  refine itd (fun a1 => ?_) (fun a1 => ?_)
  · walk_at "rd"
    by_cases a2 : i ≤ 100
    · refine itF (by rw [decide_eq_true a2] <;> rfl) ?_
      walk_at "nx"
      walk_at "rd"
      rename_i H1 c1 h1
      refine r_slL (SqL.of (c1.at dls (by simp [kd.symm]))) a1 (by rw [List.length_map]; omega) fun d2 H2 n2 c2 e2 => ?_
      walk_at "rd"
      rename_i H3 c3 h3
      have kd2 : d2 ≠ dk := (ne_of_none h1 n2).symm
      have ud2 : d2 ≠ ul := (ne_of_none (c1.at uls (by simp [ku.symm])) n2).symm
      refine kS a1 a2 d2 H3 (c1.free n2) ⟨⟨dx, h3⟩, ?_, ?_, ud2, a1, a2, Nat.le_trans (lastN_len _ _) (by omega), uz⟩ ((c1.step c2).trans c3)
      · rw [← lastN_map]
        exact c3.at e2 (by simp [kd2])
      · exact c3.at (c2.at0 (c1.at uls (by simp [ku.symm]))) (by simp [ku.symm])
    · refine itT (by rw [decide_eq_false a2] <;> rfl) ?_
      exact ts_raiseO (kE fun z => a2 z.2)
  · walk_at "rd"
    refine itT (by rfl) ?_
    exact ts_raiseO (kE fun z => a1 z.1)
/-! The desk by what its papers are: footprints. -/
structure MS where
  m : PM
  dn : List PM
  un : List PM
  lim : Int
def takeM (s : MS) (m' : PM) : MS := ⟨m', lastN s.lim.toNat (s.dn ++ [s.m]), [], s.lim⟩
inductive All2 {α β : Type} (R : α → β → Prop) : List α → List β → Prop
  | nil : All2 R [] []
  | cons {a : α} {b : β} {as : List α} {bs : List β} : R a b → All2 R as bs → All2 R (a :: as) (b :: bs)
abbrev PapsAt (K : PySem.W.Frag) (H : Hp) (as : List Addr) (ms : List PM) : Prop := All2 (PapAt K H) as ms
structure DkM (K : PySem.W.Frag) (H : Hp) (F : List Addr) (dk : Addr) (s : MS) : Prop where
  ex : ∃ n pp dl ul dna una, F = dk :: dl :: ul :: pp :: (dna ++ una) ∧ DkA K H dk n pp dl ul dna una s.lim ∧ PapAt K H pp s.m ∧ PapsAt K H dna s.dn ∧ PapsAt K H una s.un
/-- only the footprint changed, and it grew by new places alone -/
structure Adv (H : Hp) (F : List Addr) (H' : Hp) (F' : List Addr) : Prop where
  ch : Ch F H H'
  ext : ∀ a ∈ F', a ∈ F ∨ H a = none
section
variable {K : PySem.W.Frag} {H H1 H' : Hp} {M F F1 F' : List Addr} {dk p : Addr} {s : MS} {m : PM} {as : List Addr} {ms : List PM}
theorem PapAt.at (h : PapAt K H p m) (c : Ch M H H') (n : p ∉ M) : PapAt K H' p m := by
  obtain ⟨⟨l, a, b⟩, nd⟩ := h
  exact ⟨⟨l, c.at a n, b.mono c⟩, nd⟩
theorem PapsAt.at (c : Ch M H H') : ∀ {as : List Addr} {ms : List PM}, PapsAt K H as ms → (∀ a ∈ as, a ∉ M) → PapsAt K H' as ms
  | _, _, .nil, _ => .nil
  | _, _, .cons h t, n => .cons (h.at c (n _ List.mem_cons_self)) (PapsAt.at c t fun a ha => n a (List.mem_cons_of_mem _ ha))
theorem PapAt.live (h : PapAt K H p m) : H p ≠ none := by
  obtain ⟨⟨l, a, b⟩, nd⟩ := h
  rw [a]; simp
theorem PapsAt.live : ∀ {as : List Addr} {ms : List PM}, PapsAt K H as ms → ∀ a ∈ as, H a ≠ none
  | _, _, .nil, _, h => by simp at h
  | _, _, .cons h t, a, ha => (List.mem_cons.mp ha).elim (fun e => by rw [e]; exact h.live) fun h2 => PapsAt.live t a h2
theorem PapsAt.len : ∀ {as : List Addr} {ms : List PM}, PapsAt K H as ms → as.length = ms.length
  | _, _, .nil => rfl
  | _, _, .cons h t => by rw [List.length_cons, List.length_cons, PapsAt.len t]
theorem PapsAt.append : ∀ {as bs : List Addr} {ms ns : List PM}, PapsAt K H as ms → PapsAt K H bs ns → PapsAt K H (as ++ bs) (ms ++ ns)
  | _, _, _, _, .nil, h => h
  | _, _, _, _, .cons h t, k => .cons h (PapsAt.append t k)
theorem PapsAt.drop : ∀ (i : Nat) {as : List Addr} {ms : List PM}, PapsAt K H as ms → PapsAt K H (as.drop i) (ms.drop i)
  | 0, _, _, h => h
  | i + 1, _, _, .nil => .nil
  | i + 1, _, _, .cons h t => PapsAt.drop i t
theorem PapsAt.last (i : Nat) (h : PapsAt K H as ms) : PapsAt K H (lastN i as) (lastN i ms) := by
  unfold lastN
  rw [h.len]
  exact PapsAt.drop _ h
theorem PapsAt.snoc : ∀ {as : List Addr} {a : Addr} {ms : List PM}, PapsAt K H (as ++ [a]) ms → ∃ ns x, ms = ns ++ [x] ∧ PapsAt K H as ns ∧ PapAt K H a x
  | [], a, _, .cons h .nil => ⟨[], _, rfl, .nil, h⟩
  | b :: r, a, _, .cons h t => by
    obtain ⟨ns, x, e, h1, h2⟩ := PapsAt.snoc (as := r) t
    exact ⟨_ :: ns, x, by rw [e] <;> rfl, .cons h h1, h2⟩
theorem Adv.nil (c : Ch [] H H') : Adv H F H' F := ⟨c.nil, fun a h => .inl h⟩
theorem Adv.trans (a : Adv H F H1 F1) (b : Adv H1 F1 H' F') : Adv H F H' F' := by
  refine ⟨⟨fun x o e n => ?_, fun x e => a.ch.dom x (b.ch.dom x e)⟩, fun x hx => (b.ext x hx).elim (a.ext x) fun h => .inr (a.ch.dom x h)⟩
  refine b.ch.keep x o (a.ch.keep x o e n) (n.imp (fun z q => ?_) id)
  rcases a.ext x q with h | h
  · exact z h
  · rw [e] at h
    cases h
theorem PapsAt.all {P : Addr → Prop} (h : ∀ a m, PapAt K H a m → P a) : ∀ {as : List Addr} {ms : List PM}, PapsAt K H as ms → ∀ a ∈ as, P a
  | _, _, .nil, _, ha => by simp at ha
  | _, _, .cons x t, a, ha => (List.mem_cons.mp ha).elim (fun e => by rw [e]; exact h _ _ x) fun h2 => PapsAt.all h t a h2
theorem DkM.live (h : DkM K H F dk s) : ∀ a ∈ F, H a ≠ none := by
  obtain ⟨n, pp, dl, ul, dna, una, rfl, D, hp, hd, hu⟩ := h
  obtain ⟨⟨dx, ob⟩, dls, uls, _⟩ := D
  intro a ha
  simp only [List.mem_cons, List.mem_append] at ha
  rcases ha with rfl | rfl | rfl | rfl | ha | ha
  · rw [ob]; simp
  · rw [dls]; simp
  · rw [uls]; simp
  · exact hp.live
  · exact hd.live a ha
  · exact hu.live a ha
theorem DkA.at {n : Int} {pp dl ul : Addr} {dn un : List Addr} {lim : Int} (h : DkA K H dk n pp dl ul dn un lim) (c : Ch M H H') (n1 : dk ∉ M) (n2 : dl ∉ M) (n3 : ul ∉ M) : DkA K H' dk n pp dl ul dn un lim := by
  obtain ⟨⟨dx, ob⟩, dls, uls, ne, l1, l2, dz, uz⟩ := h
  exact ⟨⟨dx, c.at ob n1⟩, c.at dls n2, c.at uls n3, ne, l1, l2, dz, uz⟩
theorem DkM.at (h : DkM K H F dk s) (c : Ch M H H') (n : ∀ a ∈ F, a ∉ M) : DkM K H' F dk s := by
  obtain ⟨i, pp, dl, ul, dna, una, rfl, D, hp, hd, hu⟩ := h
  exact ⟨i, pp, dl, ul, dna, una, rfl, D.at c (n _ (by simp)) (n _ (by simp)) (n _ (by simp)), hp.at c (n _ (by simp)), hd.at c fun a ha => n a (by simp [ha]), hu.at c fun a ha => n a (by simp [ha])⟩
theorem DkM.at0 (h : DkM K H F dk s) (c : Ch [] H H') : DkM K H' F dk s := h.at c fun _ _ => by simp
end
/-! ### the methods of the desk -/
def spTakeM (K : PySem.W.Frag) : Sp := fun vs H Q _ => ∃ F dk s p' m', vs = [.ref dk, .ref p'] ∧ DkM K H F dk s ∧ PapAt K H p' m' ∧ p' ∉ F ∧ ∀ F' H', DkM K H' F' dk (takeM s m') → Ch F H H' → (∀ a ∈ F', a ∈ F ∨ a = p' ∨ H a = none) → Q .non H'
theorem take_m {K : PySem.W.Frag} : ∀ vs H Q E, spTakeM K vs H Q E → spTake K vs H Q E := by
  rintro vs H Q E ⟨F, dk, s, p', m', rfl, ⟨n, pp, dl, ul, dna, una, rfl, D, hp, hd, hu⟩, hp', nF, k⟩
  refine ⟨dk, n, pp, dl, ul, dna, una, s.lim, p', rfl, D, fun dl' ul' H' n1 n2 D' c => ?_⟩
  have kd : pp ≠ dk := by
    obtain ⟨⟨dx, ob⟩, _⟩ := D
    obtain ⟨⟨l, a, _⟩, _⟩ := hp
    exact ne_of a ob (by intro z; cases z)
  have off : ∀ a m, PapAt K H a m → a ∉ [dk, dl] := fun a m h => by
    obtain ⟨⟨dx, ob⟩, dls, _⟩ := D
    obtain ⟨⟨l, e, _⟩, _⟩ := h
    have h1 : a ≠ dk := ne_of e ob (by intro z; cases z)
    have h2 : a ≠ dl := ne_of e dls (by intro z; cases z)
    simp [h1, h2]
  refine k (dk :: dl' :: ul' :: p' :: (lastN s.lim.toNat (dna ++ [pp]) ++ [])) H' ⟨n, p', dl', ul', _, [], rfl, D', hp'.at c (off _ _ hp'), ?_, .nil⟩ (c.mono (by simp)) ?_
  · have hda : PapsAt K H (dna ++ [pp]) (s.dn ++ [s.m]) := hd.append (.cons hp .nil)
    exact (hda.last s.lim.toNat).at c fun a ha => PapsAt.all off hda a (List.mem_of_mem_drop ha)
  · intro a ha
    simp only [List.mem_cons, List.mem_append, List.append_nil] at ha
    rcases ha with rfl | rfl | rfl | rfl | ha
    · exact .inl (by simp)
    · exact .inr (.inr n1)
    · exact .inr (.inr n2)
    · exact .inr (.inl rfl)
    · have := List.mem_of_mem_drop ha
      simp only [List.mem_append, List.mem_singleton] at this
      rcases this with h | h
      · exact .inl (by simp [h])
      · exact .inl (by simp [h])
/-! put, drop, rename, undo, redo, limit, by footprints. -/
/-- o.m(..): the object, its class -/
def MthQ (C : Addr) (m : Str) (sp : Sp) (E : L2.St → XK) (t : TA) (σ : L2.St) (Q : VK) (x : V) (H1 : Hp) : Prop := ∃ a dx fs, x = .ref a ∧ H1 a = some (.ins C dx fs) ∧ fs.lookup m = none ∧ t σ H1 fun vs H2 => sp (.ref a :: vs) H2 Q (E σ)
theorem te_mth {C : Addr} {m : Str} {sp : Sp} {E : L2.St → XK} {ta : TE} {t : TA} {σ : L2.St} {H : Hp} {Q : VK} (k : ta σ H fun x H1 => MthQ C m sp E t σ Q x H1) : tMethA C m sp E ta t σ H Q := k
theorem mthq {C : Addr} {m : Str} {sp : Sp} {E : L2.St → XK} {t : TA} {σ : L2.St} {Q : VK} {H1 : Hp} {a dx : Addr} {fs : List (Str × V)} (h : H1 a = some (.ins C dx fs)) (l : fs.lookup m = none) (k : t σ H1 fun vs H2 => sp (.ref a :: vs) H2 Q (E σ)) : MthQ C m sp E t σ Q (.ref a) H1 := ⟨a, dx, fs, rfl, h, l, k⟩
def EdPost (K : PySem.W.Frag) (F : List Addr) (dk : Addr) (s : MS) (e : Ed) (H : Hp) (Q : VK) (E : XK) : Prop := DkM K H F dk s ∧ EdOk s.m e ∧ GM s.m ∧ s.m.length ≤ 1000 ∧
  (rsE s.m e = .ok → ∀ F' H', DkM K H' F' dk (takeM s (edM s.m e)) → Adv H F H' F' → Q .non H') ∧ (∀ cls dd H', ExcR K (rsE s.m e) cls → Ch [] H H' → XdOk dd H' → E cls dd H')
def spPutM (K : PySem.W.Frag) : Sp := fun vs H Q E => ∃ F dk s z k tv d, vs = [.ref dk, .str z, .str k, tv] ∧ Dt K H tv d ∧ EdPost K F dk s (.put z k d) H Q E
def spDropM (K : PySem.W.Frag) : Sp := fun vs H Q E => ∃ F dk s z, vs = [.ref dk, .str z] ∧ EdPost K F dk s (.drop z) H Q E
def spRenM (K : PySem.W.Frag) : Sp := fun vs H Q E => ∃ F dk s o n, vs = [.ref dk, .str o, .str n] ∧ EdPost K F dk s (.ren o n) H Q E
section
variable {K : PySem.W.Frag} {mg : Str → Option Value} (T : TT K mg) (vs : List V) (H : Hp) (Q : VK) (E : XK)
theorem take_post {F : List Addr} {dk p' : Addr} {s : MS} {m' : PM} {H' : Hp} {E' : XK} (D : DkM K H F dk s) (np : H p' = none) (hp : PapAt K H' p' m') (c : Ch [] H H') (k : ∀ F' H', DkM K H' F' dk (takeM s m') → Adv H F H' F' → Q .non H') :
    spTakeM K [.ref dk, .ref p'] H' Q E' := by
  refine ⟨F, dk, s, p', m', rfl, D.at0 c, hp, fun h => D.live _ h np, fun F' H2 D2 c2 ext => k F' H2 D2 ⟨c.nil.trans c2, fun a ha => ?_⟩⟩
  rcases ext a ha with h | rfl | h
  · exact .inl h
  · exact .inr np
  · exact .inr (c.dom _ h)
include T
theorem pure_dput (h : spPutM K vs H Q E) : t_Desk_put K (spTakeM K) (spPutP K) E { nx := fun _ H' => Q .non H', rt := Q } (L2.start N_Desk_put vs) H := by
  obtain ⟨F, dk, s, z, k, tv, d, rfl, hd, D, eo, gm, lm, kS, kE⟩ := h
  have DD := D
  obtain ⟨n, pp, dl, ul, dna, una, rfl, ⟨⟨dx, ob⟩, _⟩, hp, hda, hua⟩ := D
  unfold t_Desk_put
  refine ts_drop (te_mth ?_)
  walk_at "rd"
  refine mthq ob (lk_meth n pp dl ul s.lim).2.1 ?_
  walk_at "rd"
  obtain ⟨ok, lz, room⟩ := eo
  refine ⟨pp, s.m, z, k, tv, d, rfl, hp, hd, ok, lz, room, lm, fun rs p' H' np hp' c => ?_, kE⟩
  walk_at "rd"
  exact take_post H _ DD np hp' c (kS rs)
theorem pure_ddrop (h : spDropM K vs H Q E) : t_Desk_drop K (spTakeM K) (spDropP K) E { nx := fun _ H' => Q .non H', rt := Q } (L2.start N_Desk_drop vs) H := by
  obtain ⟨F, dk, s, z, rfl, D, eo, gm, lm, kS, kE⟩ := h
  have DD := D
  obtain ⟨n, pp, dl, ul, dna, una, rfl, ⟨⟨dx, ob⟩, _⟩, hp, hda, hua⟩ := D
  unfold t_Desk_drop
  refine ts_drop (te_mth ?_)
  walk_at "rd"
  refine mthq ob (lk_meth n pp dl ul s.lim).2.1 ?_
  walk_at "rd"
  refine ⟨pp, s.m, z, rfl, hp, lm, fun rs p' H' np hp' c => ?_, kE⟩
  walk_at "rd"
  exact take_post H _ DD np hp' c (kS rs)
theorem pure_dren (h : spRenM K vs H Q E) : t_Desk_rename K (spTakeM K) (spRenP K) E { nx := fun _ H' => Q .non H', rt := Q } (L2.start N_Desk_rename vs) H := by
  obtain ⟨F, dk, s, o, n', rfl, D, eo, gm, lm, kS, kE⟩ := h
  have DD := D
  obtain ⟨n, pp, dl, ul, dna, una, rfl, ⟨⟨dx, ob⟩, _⟩, hp, hda, hua⟩ := D
  unfold t_Desk_rename
  refine ts_drop (te_mth ?_)
  walk_at "rd"
  refine mthq ob (lk_meth n pp dl ul s.lim).2.1 ?_
  walk_at "rd"
  refine ⟨pp, s.m, o, n', rfl, hp, gm, lm, eo, fun rs p' H' np hp' c => ?_, kE⟩
  walk_at "rd"
  exact take_post H _ DD np hp' c (kS rs)
end
/-! ### undo, redo, limit -/
def spUndoM (K : PySem.W.Frag) : Sp := fun vs H Q E => ∃ F dk s, vs = [.ref dk] ∧ DkM K H F dk s ∧ (s.dn ≠ [] → s.un.length < 100) ∧
  (s.dn = [] → E (.ref (He.ga K "NoStep")) none H) ∧ (∀ dn0 x, s.dn = dn0 ++ [x] → ∀ F' H', DkM K H' F' dk ⟨x, dn0, s.un ++ [s.m], s.lim⟩ → Adv H F H' F' → Q .non H')
def spRedoM (K : PySem.W.Frag) : Sp := fun vs H Q E => ∃ F dk s, vs = [.ref dk] ∧ DkM K H F dk s ∧
  (s.un = [] → E (.ref (He.ga K "NoStep")) none H) ∧ (∀ un0 x, s.un = un0 ++ [x] → ∀ F' H', DkM K H' F' dk ⟨x, lastN s.lim.toNat (s.dn ++ [s.m]), un0, s.lim⟩ → Adv H F H' F' → Q .non H')
def spLimM (K : PySem.W.Frag) : Sp := fun vs H Q E => ∃ F dk s i, vs = [.ref dk, .int i] ∧ DkM K H F dk s ∧
  (¬ (1 ≤ i ∧ i ≤ 100) → E (.ref (He.ga K "OutOfRange")) none H) ∧ (1 ≤ i → i ≤ 100 → ∀ F' H', DkM K H' F' dk ⟨s.m, lastN i.toNat s.dn, s.un, i⟩ → Adv H F H' F' → Q .non H')
section
variable {K : PySem.W.Frag}
theorem DkA.off {H : Hp} {dk : Addr} {n : Int} {pp dl ul : Addr} {dn un : List Addr} {lim : Int} (D : DkA K H dk n pp dl ul dn un lim) : ∀ a m, PapAt K H a m → a ∉ [dk, dl, ul] := fun a m h => by
  obtain ⟨⟨dx, ob⟩, dls, uls, _⟩ := D
  obtain ⟨⟨l, e, _⟩, _⟩ := h
  have h1 : a ≠ dk := ne_of e ob (by intro z; cases z)
  have h2 : a ≠ dl := ne_of e dls (by intro z; cases z)
  have h3 : a ≠ ul := ne_of e uls (by intro z; cases z)
  simp [h1, h2, h3]
theorem undo_m : ∀ vs H Q E, spUndoM K vs H Q E → spUndo K vs H Q E := by
  rintro vs H Q E ⟨F, dk, s, rfl, ⟨n, pp, dl, ul, dna, una, rfl, D, hp, hd, hu⟩, lu, kE, kS⟩
  refine ⟨dk, n, pp, dl, ul, dna, una, s.lim, rfl, D, fun z => by rw [hu.len]; exact lu fun e => z (List.eq_nil_of_length_eq_zero (by rw [hd.len, e]; rfl)), fun e => kE ?_, fun dn0 x e H' D' c => ?_⟩
  · subst e
    exact List.eq_nil_of_length_eq_zero hd.len.symm
  · subst e
    obtain ⟨ns, y, e2, h1, h2⟩ := PapsAt.snoc hd
    have off := D.off
    refine kS ns y e2 (dk :: dl :: ul :: x :: (dn0 ++ (una ++ [pp]))) H' ⟨n, x, dl, ul, dn0, _, rfl, D', h2.at c (off _ _ h2), PapsAt.at c h1 (PapsAt.all off h1), PapsAt.append (PapsAt.at c hu (PapsAt.all off hu)) (.cons (hp.at c (off _ _ hp)) .nil)⟩ ⟨c.mono (by simp), fun a ha => .inl ?_⟩
    simp only [List.mem_cons, List.mem_append, List.not_mem_nil, or_false] at ha ⊢
    grind
theorem redo_m : ∀ vs H Q E, spRedoM K vs H Q E → spRedo K vs H Q E := by
  rintro vs H Q E ⟨F, dk, s, rfl, ⟨n, pp, dl, ul, dna, una, rfl, D, hp, hd, hu⟩, kE, kS⟩
  refine ⟨dk, n, pp, dl, ul, dna, una, s.lim, rfl, D, fun e => kE ?_, fun un0 x e dl' H' nl D' c => ?_⟩
  · subst e
    exact List.eq_nil_of_length_eq_zero hu.len.symm
  · subst e
    obtain ⟨ns, y, e2, h1, h2⟩ := PapsAt.snoc hu
    have off := D.off
    have hda : PapsAt K H (dna ++ [pp]) (s.dn ++ [s.m]) := PapsAt.append hd (.cons hp .nil)
    refine kS ns y e2 (dk :: dl' :: ul :: x :: (lastN s.lim.toNat (dna ++ [pp]) ++ un0)) H' ⟨n, x, dl', ul, _, un0, rfl, D', h2.at c (off _ _ h2), PapsAt.at c (PapsAt.last s.lim.toNat hda) fun a ha => PapsAt.all off hda a (List.mem_of_mem_drop ha), PapsAt.at c h1 (PapsAt.all off h1)⟩ ⟨c.mono (by simp), fun a ha => ?_⟩
    simp only [List.mem_cons, List.mem_append] at ha
    rcases ha with rfl | rfl | rfl | rfl | ha | ha
    · exact .inl (by simp)
    · exact .inr nl
    · exact .inl (by simp)
    · exact .inl (by simp)
    · have := List.mem_of_mem_drop ha
      simp only [List.mem_append, List.mem_singleton] at this
      rcases this with h | h
      · exact .inl (by simp [h])
      · exact .inl (by simp [h])
    · exact .inl (by simp [ha])
theorem lim_m : ∀ vs H Q E, spLimM K vs H Q E → spLimSet K vs H Q E := by
  rintro vs H Q E ⟨F, dk, s, i, rfl, ⟨n, pp, dl, ul, dna, una, rfl, D, hp, hd, hu⟩, kE, kS⟩
  refine ⟨dk, n, pp, dl, ul, dna, una, s.lim, i, rfl, D, kE, fun i1 i2 dl' H' nl D' c => ?_⟩
  have off : ∀ a m, PapAt K H a m → a ∉ [dk] := fun a m h z => D.off a m h (by simp at z; simp [z])
  refine kS i1 i2 (dk :: dl' :: ul :: pp :: (lastN i.toNat dna ++ una)) H' ⟨n, pp, dl', ul, _, una, rfl, D', hp.at c (off _ _ hp), PapsAt.at c (PapsAt.last i.toNat hd) fun a ha => PapsAt.all off hd a (List.mem_of_mem_drop ha), PapsAt.at c hu (PapsAt.all off hu)⟩ ⟨c.mono (by simp), fun a ha => ?_⟩
  simp only [List.mem_cons, List.mem_append] at ha
  rcases ha with rfl | rfl | rfl | rfl | ha | ha
  · exact .inl (by simp)
  · exact .inr nl
  · exact .inl (by simp)
  · exact .inl (by simp)
  · exact .inl (by simp [List.mem_of_mem_drop ha])
  · exact .inl (by simp [ha])
end
/-! The desk: made, looked at. -/
def spNamesM (K : PySem.W.Frag) : Sp := fun vs H Q _ => ∃ F dk s, vs = [.ref dk] ∧ DkM K H F dk s ∧ s.m.length < 64 ∧ ∀ ys p H', ys.Perm (s.m.map (·.1)) → sortedS ys = true → Ch [] H H' → H' p = some (.tup (ys.map V.str)) → Q (.ref p) H'
def spStepsM (K : PySem.W.Frag) : Sp := fun vs H Q _ => ∃ F dk s, vs = [.ref dk] ∧ DkM K H F dk s ∧ Q (.int (s.dn.length : Int)) H
def spUndoneM (K : PySem.W.Frag) : Sp := fun vs H Q _ => ∃ F dk s, vs = [.ref dk] ∧ DkM K H F dk s ∧ Q (.int (s.un.length : Int)) H
def spLimitM (K : PySem.W.Frag) : Sp := fun vs H Q _ => ∃ F dk s, vs = [.ref dk] ∧ DkM K H F dk s ∧ Q (.int s.lim) H
def PaQ (K : PySem.W.Frag) (F : List Addr) (dk : Addr) (s : MS) (z : Str) (H : Hp) (E : XK) : Prop := DkM K H F dk s ∧ (mlook s.m z = none → ∀ dd H', Ch [] H H' → XdOk dd H' → E (.ref (He.ga K "UnknownName")) dd H')
def spPaper (K : PySem.W.Frag) : Sp := fun vs H Q E => ∃ F dk s z, vs = [.ref dk, .str z] ∧ PaQ K F dk s z H E ∧ ∀ k d q tv, mlook s.m z = some (k, d) → SqT K H q [.str k, tv] → Dt K H tv d → Q (.ref q) H
def spKindOf (K : PySem.W.Frag) : Sp := fun vs H Q E => ∃ F dk s z, vs = [.ref dk, .str z] ∧ PaQ K F dk s z H E ∧ ∀ k d, mlook s.m z = some (k, d) → Q (.str k) H
def spTermOf (K : PySem.W.Frag) : Sp := fun vs H Q E => ∃ F dk s z, vs = [.ref dk, .str z] ∧ PaQ K F dk s z H E ∧ ∀ k d tv, mlook s.m z = some (k, d) → Dt K H tv d → Q tv H
theorem r_sortS {K : PySem.W.Frag} {p : Addr} {xs : List Str} {H : Hp} {Q : VK} (h : SqL K H p (xs.map V.str)) (hl : xs.length < 64) (k : ∀ ys l H2, ys.Perm xs → sortedS ys = true → H l = none → Ch [] H H2 → H2 l = some (.lst (ys.map V.str)) → Q (.ref l) H2) : rSortedS K [.ref p] H Q :=
  ⟨p, xs, rfl, h, hl, fun ys l hp hs hn => k ys l _ hp hs hn (Ch.new hn) upd_same⟩
theorem te_kind {K : PySem.W.Frag} {te : TE} {r : V → Hp → VK → Prop} {σ : L2.St} {H : Hp} {Q : VK} (k : te σ H fun x H1 => r x H1 Q) : tThen te r σ H Q := k
theorem PEnts.keyV {K : PySem.W.Frag} {H : Hp} {l : List (Key × V)} {m : PM} (h : PEnts K H l m) : (l.map fun kv => kV kv.1) = (m.map (·.1)).map V.str := by
  have e := congrArg (List.map kV) h.keys
  rw [List.map_map, List.map_map] at e
  rw [List.map_map]
  exact e
section
variable {K : PySem.W.Frag} {mg : Str → Option Value} (T : TT K mg) (vs : List V) (H : Hp) (Q : VK) (E : XK)
include T
theorem pure_names (h : spNamesM K vs H Q E) : t_Desk_names K { nx := fun _ H' => Q .non H', rt := Q } (L2.start N_Desk_names vs) H := by
  obtain ⟨F, dk, s, rfl, ⟨n, pp, dl, ul, dna, una, rfl, ⟨⟨dx, ob⟩, _⟩, ⟨⟨l, hl, he⟩, nd⟩, _, _⟩, lm, k⟩ := h
  unfold t_Desk_names
  walk_at "rd"
  refine r_listD (.inl hl) fun l1 H1 n1 c1 e1 => ?_
  walk_at "rd"
  rw [he.keyV] at e1
  refine r_sortS (SqL.of e1) (by rw [List.length_map]; exact lm) fun ys l2 H2 hp hs n2 c2 e2 => ?_
  refine r_tupL (SqL.of e2) fun l3 H3 n3 c3 e3 => ?_
  walk_at "rd"
  exact k ys l3 H3 hp hs ((c1.trans c2).trans c3) e3
theorem pure_steps (h : spStepsM K vs H Q E) : t_Desk_steps K { nx := fun _ H' => Q .non H', rt := Q } (L2.start N_Desk_steps vs) H := by
  obtain ⟨F, dk, s, rfl, ⟨n, pp, dl, ul, dna, una, rfl, ⟨⟨dx, ob⟩, dls, uls, _⟩, _, hd, _⟩, k⟩ := h
  unfold t_Desk_steps
  walk_at "rd"
  rw [List.length_map, hd.len]
  exact k
theorem pure_undone (h : spUndoneM K vs H Q E) : t_Desk_undone K { nx := fun _ H' => Q .non H', rt := Q } (L2.start N_Desk_undone vs) H := by
  obtain ⟨F, dk, s, rfl, ⟨n, pp, dl, ul, dna, una, rfl, ⟨⟨dx, ob⟩, dls, uls, _⟩, _, _, hu⟩, k⟩ := h
  unfold t_Desk_undone
  walk_at "rd"
  rw [List.length_map, hu.len]
  exact k
theorem pure_limit (h : spLimitM K vs H Q E) : t_Desk_limit K { nx := fun _ H' => Q .non H', rt := Q } (L2.start N_Desk_limit vs) H := by
  obtain ⟨F, dk, s, rfl, ⟨n, pp, dl, ul, dna, una, rfl, ⟨⟨dx, ob⟩, dls, uls, _⟩, _, _, hu⟩, k⟩ := h
  unfold t_Desk_limit
  walk_at "rd"
  exact k
theorem pure_paper (h : spPaper K vs H Q E) : t_Desk__paper K (spI1 K "UnknownName" "name") E { nx := fun _ H' => Q .non H', rt := Q } (L2.start N_Desk__paper vs) H := by
  obtain ⟨F, dk, s, z, rfl, ⟨⟨n, pp, dl, ul, dna, una, rfl, ⟨⟨dx, ob⟩, dls, uls, _⟩, ⟨⟨l, hl, he⟩, nd⟩, _⟩, kE⟩, k⟩ := h
  unfold t_Desk__paper
  walk_at "rd"
  refine dniq (.inl hl) ?_
  walk_at "rd"
  rw [he.isSome]
  cases e : mlook s.m z with
  | none =>
    refine itT (by rfl) ?_
    refine ts_raiseI ?_
    walk_at "rd"
    exact raq fun dd H2 _ c e' => kE e _ H2 c (.inr ⟨_, _, rfl, e'⟩)
  | some kd =>
    obtain ⟨k', d'⟩ := kd
    refine itF (by rfl) ?_
    walk_at "nx"
    walk_at "rd"
    obtain ⟨q, tv, f1, f2, f3⟩ := he.look_yes e
    refine dgtq (.inl hl) f1 ?_
    walk_at "rd"
    exact k k' d' q tv e f2 f3
theorem pure_kind_of (h : spKindOf K vs H Q E) : t_Desk_kind_of K (spPaper K) E { nx := fun _ H' => Q .non H', rt := Q } (L2.start N_Desk_kind_of vs) H := by
  obtain ⟨F, dk, s, z, rfl, hP, k⟩ := h
  have hP' := hP
  obtain ⟨⟨n, pp, dl, ul, dna, una, rfl, ⟨⟨dx, ob⟩, dls, uls, _⟩, ⟨⟨l, hl, he⟩, nd⟩, _⟩, kE⟩ := hP
  unfold t_Desk_kind_of
  refine ts_ret (te_op (te_mth ?_))
  walk_at "rd"
  refine mthq ob (lk_meth n pp dl ul s.lim).1 ?_
  walk_at "rd"
  refine ⟨_, dk, s, z, rfl, hP', fun k' d' q tv e h1 h2 => ?_⟩
  walk_at "rd"
  exact k k' d' e
theorem pure_term_of (h : spTermOf K vs H Q E) : t_Desk_term_of K (spPaper K) E { nx := fun _ H' => Q .non H', rt := Q } (L2.start N_Desk_term_of vs) H := by
  obtain ⟨F, dk, s, z, rfl, hP, k⟩ := h
  have hP' := hP
  obtain ⟨⟨n, pp, dl, ul, dna, una, rfl, ⟨⟨dx, ob⟩, dls, uls, _⟩, ⟨⟨l, hl, he⟩, nd⟩, _⟩, kE⟩ := hP
  unfold t_Desk_term_of
  refine ts_ret (te_op (te_mth ?_))
  walk_at "rd"
  refine mthq ob (lk_meth n pp dl ul s.lim).1 ?_
  walk_at "rd"
  refine ⟨_, dk, s, z, rfl, hP', fun k' d' q tv e h1 h2 => ?_⟩
  walk_at "rd"
  exact k k' d' tv e h2
/-! ### a new desk -/
end
def spDInit (K : PySem.W.Frag) : Sp := fun vs H Q _ => ∃ a dx n, vs = [.ref a, .int n] ∧ H a = some (.ins (gD K) dx []) ∧ 1 ≤ n ∧ n ≤ 4 ∧ ∀ pp dl ul H', H pp = none → H dl = none → H ul = none → DkM K H' [a, dl, ul, pp] a ⟨[], [], [], 20⟩ → Ch [a] H H' → Q .non H'
theorem pure_dinit {K : PySem.W.Frag} {mg : Str → Option Value} (T : TT K mg) (vs : List V) (H : Hp) (Q : VK) (E : XK) (h : spDInit K vs H Q E) : t_Desk___init__ K E { nx := fun _ H' => Q .non H', rt := Q } (L2.start N_Desk___init__ vs) H := by
  obtain ⟨a, dx, n, rfl, ha, n1, n4, k⟩ := h
  unfold t_Desk___init__
  walk_at "rd"
  refine itd (fun _ => ?_) (fun z => absurd n1 z)
  walk_at "rd"
  refine itF (by rw [decide_eq_true n4] <;> rfl) ?_
  walk_at "nx"
  walk_at "rd"
  refine fldq ha (cl_Desk T) (na_Desk_outcomes T) (by decide) fun H1 c1 e1 => ?_
  walk_at "rd"
  rename_i pp H2 np c2 e2
  refine fldq (c2.at0 e1) (cl_Desk T) (na_Desk__papers T) (by show 1 < 1000; decide) fun H3 c3 e3 => ?_
  walk_at "rd"
  rename_i dl H4 nl c4 e4
  refine fldq (c4.at0 e3) (cl_Desk T) (na_Desk__done T) (by show 2 < 1000; decide) fun H5 c5 e5 => ?_
  walk_at "rd"
  rename_i ul H6 nu c6 e6
  refine fldq (c6.at0 e5) (cl_Desk T) (na_Desk__undone T) (by show 3 < 1000; decide) fun H7 c7 e7 => ?_
  walk_at "rd"
  refine fldq e7 (cl_Desk T) (na_Desk__limit T) (by show 4 < 1000; decide) fun H8 c8 e8 => ?_
  have a1 : pp ≠ a := (ne_of_none e1 np).symm
  have a2 : dl ≠ a := (ne_of_none e3 nl).symm
  have a3 : ul ≠ a := (ne_of_none e5 nu).symm
  have C2 : Ch [a] H H2 := c1.step c2
  have C4 : Ch [a] H H4 := (C2.trans c3).step c4
  have C6 : Ch [a] H H6 := (C4.trans c5).step c6
  have C8 : Ch [a] H H8 := (C6.trans c7).trans c8
  have p8 : H8 pp = some (.dK []) := c8.at (c7.at (c6.at0 (c5.at (c4.at0 (c3.at e2 (by simp [a1]))) (by simp [a1]))) (by simp [a1])) (by simp [a1])
  have l8 : H8 dl = some (.lst []) := c8.at (c7.at (c6.at0 (c5.at e4 (by simp [a2]))) (by simp [a2])) (by simp [a2])
  have u8 : H8 ul = some (.lst []) := c8.at (c7.at e6 (by simp [a3])) (by simp [a3])
  have f4 : H5 dl = some (.lst []) := c5.at e4 (by simp [a2])
  walk_at "rd"
  refine k pp dl ul H8 (c1.free np) ((C2.trans c3).free nl) ((C4.trans c5).free nu) ⟨n, pp, dl, ul, [], [], rfl, ⟨⟨dx, ?_⟩, l8, u8, ne_of_none f4 nu, by decide, by decide, by decide, by decide⟩, ⟨⟨[], p8, .nil⟩, .nil⟩, .nil, .nil⟩ C8
  rw [e8]
  rfl
end K9
namespace K9
open PySem PySem.Spec PyProof.Rows L2
/-! The desk's history, plain. -/
abbrev sPut : Str := PySem.Str.ofString "put"
abbrev sFirst : Str := PySem.Str.ofString "first"
abbrev sNode : Str := PySem.Str.ofString "node"
abbrev sEmp : Str := PySem.Str.ofString ""
abbrev sA1 : Str := PySem.Str.ofString "a1"
def badD : PyData := .tuple [.str sFirst, .int (-1)]
/-- an edit that a law makes: of names of the pool, or odd ones -/
def EdP (pool : List Str) : Ed → Prop
  | .put z k d => OkT d ∧ (z ∈ pool ∨ z = sEmp ∨ z = sA1) ∧ (k = sAim ∨ k = sTree ∨ k = sNode) ∧ (wOk d 30 = true ∨ d = badD)
  | .drop z => z.length ≤ 1000
  | .ren o n => o.length ≤ 1000 ∧ (n ∈ pool ∨ n = sEmp)
structure GP (pool : List Str) (m : PM) : Prop where
  gm : GM m
  nd : (m.map (·.1)).Nodup
  keys : ∀ z, mlook m z ≠ none → z ∈ pool
  pw : ∀ z ∈ pool, isWord z = true
  pl : pool.length ≤ 15
theorem nodup_le {α : Type} [DecidableEq α] : ∀ {xs ys : List α}, xs.Nodup → (∀ x ∈ xs, x ∈ ys) → xs.length ≤ ys.length
  | [], _, _, _ => Nat.zero_le _
  | x :: r, ys, h, s => by
    obtain ⟨h1, h2⟩ := List.nodup_cons.mp h
    have hx := s x List.mem_cons_self
    have := nodup_le (xs := r) (ys := ys.erase x) h2 fun y hy => (List.mem_erase_of_ne (fun e => h1 (by rw [← e]; exact hy))).mpr (s y (List.mem_cons_of_mem _ hy))
    rw [List.length_erase_of_mem hx] at this
    have p : 0 < ys.length := List.length_pos_of_mem hx
    rw [List.length_cons]
    omega
section
variable {pool : List Str} {m m' : PM} {e : Ed}
theorem GP.len (g : GP pool m) : m.length ≤ 15 := by
  have := nodup_le g.nd fun z hz => g.keys z (mem_look.mp hz)
  rw [List.length_map] at this
  exact Nat.le_trans this g.pl
theorem word_len {z : Str} (h : isWord z = true) : z.length ≤ 12 := by
  unfold isWord at h
  simp only [Bool.and_eq_true, decide_eq_true_eq] at h
  exact h.2.1
theorem GP.ok (g : GP pool m) (p : EdP pool e) : EdOk m e := by
  have l := g.len
  cases e with
  | put z k d =>
    refine ⟨p.1, ?_, .inl (by omega)⟩
    rcases p.2.1 with h | rfl | rfl
    · exact Nat.le_trans (word_len (g.pw z h)) (by decide)
    · decide
    · decide
  | drop z => trivial
  | ren o n =>
    rcases p.2 with h | rfl
    · exact Nat.le_trans (word_len (g.pw n h)) (by decide)
    · show Str.length _ ≤ 100000; decide
/-! ### terms renamed -/
mutual
theorem ren_dp (u1 u2 n : Str) : ∀ d : PyData, (renD u1 u2 n d).depth = d.depth
  | .tuple ds => by
    by_cases h : ds = [.str u1, .str u2]
    · subst h; rw [ren_yes]; rfl
    · rw [ren_no h]
      show PyData.depthAll _ + 1 = PyData.depthAll ds + 1
      rw [rens_dp u1 u2 n ds]
  | .int _ => rfl
  | .str _ => rfl
  | .none => rfl
  | .bool _ => rfl
  | .list _ => rfl
  | .dict _ => rfl
theorem rens_dp (u1 u2 n : Str) : ∀ ds : List PyData, PyData.depthAll (ds.map (renD u1 u2 n)) = PyData.depthAll ds
  | [] => rfl
  | d :: ds => by
    rw [List.map_cons]
    show max (PyData.depth _) (PyData.depthAll _) = max (PyData.depth d) (PyData.depthAll ds)
    rw [ren_dp u1 u2 n d, rens_dp u1 u2 n ds]
end
mutual
theorem ren_sz (u1 u2 n : Str) : ∀ d : PyData, szD (renD u1 u2 n d) = szD d
  | .tuple ds => by
    by_cases h : ds = [.str u1, .str u2]
    · subst h; rw [ren_yes]; rfl
    · rw [ren_no h]
      show 1 + szDs _ = 1 + szDs ds
      rw [rens_sz u1 u2 n ds]
  | .int _ => rfl
  | .str _ => rfl
  | .none => rfl
  | .bool _ => rfl
  | .list _ => rfl
  | .dict _ => rfl
theorem rens_sz (u1 u2 n : Str) : ∀ ds : List PyData, szDs (ds.map (renD u1 u2 n)) = szDs ds
  | [] => rfl
  | d :: ds => by
    rw [List.map_cons]
    show szD _ + szDs _ = szD d + szDs ds
    rw [ren_sz u1 u2 n d, rens_sz u1 u2 n ds]
end
mutual
theorem ren_pl {u1 u2 n : Str} (hn : plD (.str n) = true) : ∀ d : PyData, plD d = true → plD (renD u1 u2 n d) = true
  | .tuple ds, h => by
    obtain ⟨h1, h2⟩ := Bool.and_eq_true_iff.mp (show (decide (ds.length ≤ 1000) && plDs ds) = true from h)
    by_cases e : ds = [.str u1, .str u2]
    · subst e
      rw [ren_yes]
      obtain ⟨h3, h4⟩ := Bool.and_eq_true_iff.mp (show (plD (.str u1) && plDs [.str u2]) = true from h2)
      show (decide (2 ≤ 1000) && (plD (.str u1) && (plD (.str n) && true))) = true
      rw [h3, hn] <;> rfl
    · rw [ren_no e]
      show (decide ((ds.map (renD u1 u2 n)).length ≤ 1000) && plDs (ds.map (renD u1 u2 n))) = true
      rw [List.length_map, h1, rens_pl hn ds h2] <;> rfl
  | .int _, h => h
  | .str _, h => h
  | .none, h => h
  | .bool _, h => h
  | .list _, h => h
  | .dict _, h => h
theorem rens_pl {u1 u2 n : Str} (hn : plD (.str n) = true) : ∀ ds : List PyData, plDs ds = true → plDs (ds.map (renD u1 u2 n)) = true
  | [], _ => rfl
  | d :: ds, h => by
    obtain ⟨h1, h2⟩ := Bool.and_eq_true_iff.mp (show (plD d && plDs ds) = true from h)
    rw [List.map_cons]
    show (plD _ && plDs _) = true
    rw [ren_pl hn d h1, rens_pl hn ds h2] <;> rfl
end
theorem fl2_map {f : PyData → PyData} (hf : ∀ d, isTupD (f d) = isTupD d) {ds : List PyData} (h : fl2 (.tuple ds) = true) : fl2 (.tuple (ds.map f)) = true := by
  match ds, h with
  | [], _ => rfl
  | [a], _ => show fl2 (.tuple [f a]) = true; cases f a <;> rfl
  | [a, b], h =>
    have ha : isTupD a = false := by
      cases a <;> first | rfl | (simp [fl2] at h)
    have := hf a
    rw [ha] at this
    show fl2 (.tuple [f a, f b]) = true
    revert this
    cases f a <;> intro this <;> first | rfl | (simp [isTupD] at this)
  | a :: b :: c :: r, _ => show fl2 (.tuple (f a :: f b :: f c :: r.map f)) = true; cases f a <;> rfl
theorem ren_tup (u1 u2 n : Str) (d : PyData) : isTupD (renD u1 u2 n d) = isTupD d := by
  cases d with
  | tuple ds =>
    by_cases e : ds = [.str u1, .str u2]
    · subst e; rw [ren_yes]; rfl
    · rw [ren_no e]; rfl
  | _ => rfl
mutual
theorem ren_fl (u1 u2 n : Str) : ∀ d : PyData, flD d = true → flD (renD u1 u2 n d) = true
  | .tuple ds, h => by
    obtain ⟨h1, h2⟩ := Bool.and_eq_true_iff.mp (show (fl2 (.tuple ds) && flDs ds) = true from h)
    by_cases e : ds = [.str u1, .str u2]
    · subst e; rw [ren_yes]; rfl
    · rw [ren_no e]
      show (fl2 (.tuple (ds.map (renD u1 u2 n))) && flDs (ds.map (renD u1 u2 n))) = true
      rw [fl2_map (ren_tup u1 u2 n) h1, rens_fl u1 u2 n ds h2] <;> rfl
  | .int _, h => h
  | .str _, h => h
  | .none, h => h
  | .bool _, h => h
  | .list _, h => h
  | .dict _, h => h
theorem rens_fl (u1 u2 n : Str) : ∀ ds : List PyData, flDs ds = true → flDs (ds.map (renD u1 u2 n)) = true
  | [], _ => rfl
  | d :: ds, h => by
    obtain ⟨h1, h2⟩ := Bool.and_eq_true_iff.mp (show (flD d && flDs ds) = true from h)
    rw [List.map_cons]
    show (flD _ && flDs _) = true
    rw [ren_fl u1 u2 n d h1, rens_fl u1 u2 n ds h2] <;> rfl
end
theorem OkT.ren {d : PyData} {u1 u2 n : Str} (h : OkT d) (hn : isWord n = true) : OkT (renD u1 u2 n d) :=
  ⟨ren_pl (word_pl hn) d h.pl, ren_fl u1 u2 n d h.fl, by rw [ren_sz]; exact h.sz, by rw [ren_dp]; exact h.dp⟩
end
/-! Edits, runs, plain. -/
theorem mlook_rk {m : PM} {o n : Str} {f : PyData → PyData} (ne : mlook m n = none) (y : Str) : mlook (m.map fun e => (rk o n e.1, e.2.1, f e.2.2)) y = if y = n then (mlook m o).map fun p => (p.1, f p.2) else if y = o then none else (mlook m y).map fun p => (p.1, f p.2) := by
  have hn : ∀ x ∈ m, x.1 ≠ n := fun x hx e => mem_look.mp (List.mem_map.mpr ⟨x, hx, e⟩) ne
  clear ne
  induction m with
  | nil => show none = _; split <;> (try split) <;> rfl
  | cons x r ih =>
    have ih' := ih fun z hz => hn z (List.mem_cons_of_mem _ hz)
    have hx := hn x List.mem_cons_self
    rw [List.map_cons]
    show (if rk o n x.1 = y then some (x.2.1, f x.2.2) else mlook (r.map fun e => (rk o n e.1, e.2.1, f e.2.2)) y) = if y = n then ((if x.1 = o then some x.2 else mlook r o).map fun p => (p.1, f p.2)) else if y = o then none else ((if x.1 = y then some x.2 else mlook r y).map fun p => (p.1, f p.2))
    rw [ih']
    unfold rk
    by_cases h1 : x.1 = o
    · rw [if_pos h1]
      by_cases h2 : y = n
      · simp [h1, h2]
      · rw [if_neg h2, if_neg (fun z => h2 z.symm)]
        by_cases h3 : y = o
        · rw [if_pos h3, if_neg h2, if_pos h3]
        · rw [if_neg h3, if_neg h2, if_neg h3]
          have : ¬ x.1 = y := fun z => h3 (z.symm.trans h1)
          rw [if_neg this]
    · rw [if_neg h1]
      by_cases h2 : y = n
      · rw [if_pos h2, if_pos h2]
        have : ¬ x.1 = y := fun z => hx (z.trans h2)
        rw [if_neg this, if_neg h1]
      · rw [if_neg h2, if_neg h2]
        by_cases h3 : y = o
        · rw [if_pos h3, if_pos h3]
          have : ¬ x.1 = y := fun z => h1 (z.trans h3)
          rw [if_neg this]
        · rw [if_neg h3, if_neg h3]
          by_cases h4 : x.1 = y
          · rw [if_pos h4, if_pos h4]; rfl
          · rw [if_neg h4, if_neg h4]
theorem renM_of {m : PM} {o n k0 : Str} {d0 : PyData} (h : mlook m o = some (k0, d0)) : renM m o n = m.map fun e => (rk o n e.1, e.2.1, renD k0 o n e.2.2) := by
  unfold renM
  rw [h] <;> rfl
/-- the edit as the law makes it -/
def edW (m : PM) : Ed → PM
  | .put z k d => putM m z k d
  | .drop z => dropM m z
  | .ren o n => match mlook m o with
    | some (k0, d0) => (dropM m o ++ [(n, k0, d0)]).map fun e => (e.1, e.2.1, renD k0 o n e.2.2)
    | none => m
theorem mlook_app {m r : PM} (y : Str) : mlook (m ++ r) y = match mlook m y with
    | some p => some p
    | none => mlook r y := by
  induction m with
  | nil => rfl
  | cons x s ih =>
    show (if x.1 = y then some x.2 else mlook (s ++ r) y) = match (if x.1 = y then some x.2 else mlook s y) with
      | some p => some p
      | none => mlook r y
    by_cases h : x.1 = y
    · rw [if_pos h, if_pos h]
    · rw [if_neg h, if_neg h, ih]
theorem mlook_map {m : PM} {f : PyData → PyData} (y : Str) : mlook (m.map fun e => (e.1, e.2.1, f e.2.2)) y = (mlook m y).map fun p => (p.1, f p.2) := by
  induction m with
  | nil => rfl
  | cons x s ih =>
    show (if x.1 = y then some (x.2.1, f x.2.2) else mlook (s.map fun e => (e.1, e.2.1, f e.2.2)) y) = (if x.1 = y then some x.2 else mlook s y).map fun p => (p.1, f p.2)
    rw [ih]
    by_cases h : x.1 = y
    · rw [if_pos h, if_pos h]; rfl
    · rw [if_neg h, if_neg h]
structure EqM (m m' : PM) : Prop where
  eq : ∀ z, mlook m z = mlook m' z
theorem rs_eq {m m' : PM} (h : EqM m m') (e : Ed) : rsE m e = rsE m' e := by
  cases e with
  | put z k d => rfl
  | drop z => show (if (mlook m z).isSome then Rs.ok else .unknown) = _; rw [h.eq]; rfl
  | ren o n => show (if (mlook m o).isSome then _ else _) = _; rw [h.eq, h.eq]; rfl
theorem ren_rs {m : PM} {o n : Str} (h : rsE m (.ren o n) = .ok) : ∃ k0 d0, mlook m o = some (k0, d0) ∧ isWord n = true ∧ mlook m n = none := by
  have h' : (if (mlook m o).isSome then (if isWord n = false then Rs.new else if (mlook m n).isSome then .new else .ok) else .unknown) = .ok := h
  cases e : mlook m o with
  | none => rw [e] at h'; cases h'
  | some kd =>
    obtain ⟨k0, d0⟩ := kd
    rw [e] at h'
    cases w : isWord n with
    | false => rw [w] at h'; cases h'
    | true =>
      rw [w] at h'
      cases q : mlook m n with
      | none => exact ⟨k0, d0, rfl, rfl, rfl⟩
      | some x => rw [q] at h'; cases h'
theorem eq_ed {m m' : PM} (h : EqM m m') {e : Ed} (ok : rsE m e = .ok) : EqM (edM m e) (edW m' e) := by
  refine ⟨fun y => ?_⟩
  cases e with
  | put z k d =>
    show mlook (putM m z k d) y = mlook (putM m' z k d) y
    rw [mlook_put, mlook_put, h.eq]
  | drop z =>
    show mlook (dropM m z) y = mlook (dropM m' z) y
    rw [mlook_drop, mlook_drop, h.eq]
  | ren o n =>
    obtain ⟨k0, d0, h1, h2, h3⟩ := ren_rs ok
    show mlook (renM m o n) y = mlook (match mlook m' o with
    | some (k0, d0) => (dropM m' o ++ [(n, k0, d0)]).map fun e => (e.1, e.2.1, renD k0 o n e.2.2)
    | none => m') y
    rw [renM_of h1, mlook_rk h3, ← h.eq o, h1]
    show _ = mlook ((dropM m' o ++ [(n, k0, d0)]).map fun e => (e.1, e.2.1, renD k0 o n e.2.2)) y
    rw [mlook_map, mlook_app, mlook_drop]
    have on : ¬ o = n := fun z => by rw [z, h3] at h1; cases h1
    by_cases q1 : y = n
    · have q2 : ¬ y = o := fun z => on (z.symm.trans q1)
      rw [if_pos q1, if_neg q2, ← h.eq y, q1, h3]
      show _ = (mlook [(n, k0, d0)] n).map _
      show _ = (if n = n then some (k0, d0) else none).map _
      rw [if_pos rfl]
    · rw [if_neg q1]
      have nl : mlook [(n, k0, d0)] y = none := by
        show (if n = y then some (k0, d0) else none) = none
        rw [if_neg (fun z => q1 z.symm)]
      rw [nl]
      by_cases q2 : y = o
      · rw [if_pos q2, if_pos q2]; rfl
      · rw [if_neg q2, if_neg q2, ← h.eq y]
        cases mlook m y <;> rfl
section
variable {pool : List Str} {m m' : PM} {e : Ed}
theorem put_rs {z k : Str} {d : PyData} (h : rsE m (.put z k d) = .ok) : isWord z = true ∧ isKind k = true ∧ wOk d 30 = true := by
  have h' : (if isWord z = false then Rs.name else if isKind k = false then .kind else if wOk d 30 = false then .term else .ok) = .ok := h
  cases a : isWord z with
  | false => rw [a] at h'; cases h'
  | true =>
    rw [a] at h'
    cases b : isKind k with
    | false => rw [b] at h'; cases h'
    | true =>
      rw [b] at h'
      cases c : wOk d 30 with
      | false => rw [c] at h'; cases h'
      | true => exact ⟨rfl, rfl, rfl⟩
theorem odd_words : isWord sEmp = false ∧ isWord sA1 = false := by decide +kernel
theorem gm_put {z k : Str} {d : PyData} (g : GM m) (ge : GE (z, k, d)) : GM (putM m z k d) := by
  intro x hx
  unfold putM at hx
  split at hx
  · obtain ⟨y, hy, e⟩ := List.mem_map.mp hx
    split at e
    · rename_i q
      rw [← e, q]
      exact ge
    · rw [← e]
      exact g y hy
  · rcases List.mem_append.mp hx with h | h
    · exact g x h
    · rw [List.mem_singleton.mp h]
      exact ge
theorem GP.ed (g : GP pool m) (p : EdP pool e) (ok : rsE m e = .ok) : GP pool (edM m e) := by
  cases e with
  | put z k d =>
    obtain ⟨h1, h2, h3⟩ := put_rs ok
    refine ⟨gm_put g.gm ⟨h1, h2, p.1⟩, keys_put g.nd, fun y hy => ?_, g.pw, g.pl⟩
    have hy' : mlook (putM m z k d) y ≠ none := hy
    rw [mlook_put] at hy'
    by_cases q : y = z
    · rcases p.2.1 with h | h | h
      · rw [q]; exact h
      · rw [h, odd_words.1] at h1; cases h1
      · rw [h, odd_words.2] at h1; cases h1
    · rw [if_neg q] at hy'
      exact g.keys y hy'
  | drop z =>
    refine ⟨fun x hx => g.gm x ((List.mem_filter.mp hx).1), keys_drop g.nd, fun y hy => ?_, g.pw, g.pl⟩
    have hy' : mlook (dropM m z) y ≠ none := hy
    rw [mlook_drop] at hy'
    by_cases q : y = z
    · rw [if_pos q] at hy'; exact absurd rfl hy'
    · rw [if_neg q] at hy'
      exact g.keys y hy'
  | ren o n =>
    obtain ⟨k0, d0, h1, h2, h3⟩ := ren_rs ok
    show GP pool (renM m o n)
    rw [renM_of h1]
    refine ⟨fun x hx => ?_, keys_ren g.nd h3, fun y hy => ?_, g.pw, g.pl⟩
    · obtain ⟨y, hy, e⟩ := List.mem_map.mp hx
      have gy := g.gm y hy
      rw [← e]
      refine ⟨?_, gy.kd, gy.ok.ren h2⟩
      show isWord (rk o n y.1) = true
      unfold rk
      split
      · exact h2
      · exact gy.wd
    · rw [mlook_rk h3] at hy
      by_cases q : y = n
      · rcases p.2 with h | h
        · rw [q]; exact h
        · rw [h, odd_words.1] at h2; cases h2
      · rw [if_neg q] at hy
        by_cases q2 : y = o
        · rw [if_pos q2] at hy; exact absurd rfl hy
        · rw [if_neg q2] at hy
          refine g.keys y fun z => hy ?_
          rw [z]; rfl
theorem keys_ext (h : ∀ z, mlook m z = mlook m' z) (k : ∀ z, mlook m z ≠ none → z ∈ pool) : ∀ z, mlook m' z ≠ none → z ∈ pool := fun z hz => k z (by rw [h z]; exact hz)
theorem GP.edW (g : GP pool m) (p : EdP pool e) (ok : rsE m e = .ok) : GP pool (K9.edW m e) := by
  have ke := keys_ext (eq_ed (m := m) (m' := m) ⟨fun _ => rfl⟩ ok).eq (g.ed p ok).keys
  cases e with
  | put z k d => exact g.ed p ok
  | drop z => exact g.ed p ok
  | ren o n =>
    obtain ⟨k0, d0, h1, h2, h3⟩ := ren_rs ok
    have e1 : K9.edW m (.ren o n) = (dropM m o ++ [(n, k0, d0)]).map fun e : Str × Str × PyData => (e.1, e.2.1, renD k0 o n e.2.2) := by
      simp only [K9.edW, h1]
    refine ⟨?_, ?_, ke, g.pw, g.pl⟩
    · rw [e1]
      intro x hx
      obtain ⟨y, hy, e⟩ := List.mem_map.mp hx
      have gy : isWord y.1 = true ∧ isKind y.2.1 = true ∧ OkT y.2.2 := by
        rcases List.mem_append.mp hy with h | h
        · have := g.gm y ((List.mem_filter.mp h).1)
          exact ⟨this.wd, this.kd, this.ok⟩
        · rw [List.mem_singleton.mp h]
          have := g.gm _ (mlook_mem h1)
          exact ⟨h2, this.kd, this.ok⟩
      rw [← e]
      exact ⟨gy.1, gy.2.1, gy.2.2.ren h2⟩
    · rw [e1, List.map_map]
      show ((dropM m o ++ [(n, k0, d0)]).map (·.1)).Nodup
      rw [List.map_append]
      refine nd_snoc (keys_drop g.nd) fun hm => ?_
      have := mem_look.mp hm
      rw [mlook_drop, h3] at this
      split at this <;> exact this rfl
end
/-! ### runs -/
def runX (ed : PM → Ed → PM) : PM → List Ed → Nat → Sum Nat PM
  | m, [], _ => .inr m
  | m, e :: es, i => if rsE m e = .ok then runX ed (ed m e) es (i + 1) else .inl i
theorem runX_stop {ed : PM → Ed → PM} {m : PM} {es : List Ed} {i : Nat} {e : Ed} (h : es[i]? = some e) (n : rsE m e ≠ .ok) : runX ed m (es.drop i) i = .inl i := by
  rw [List.drop_eq_getElem?_toList_append, h]
  show (if rsE m e = .ok then _ else Sum.inl i) = _
  rw [if_neg n]
theorem runX_go {ed : PM → Ed → PM} {m : PM} {es : List Ed} {i : Nat} {e : Ed} (h : es[i]? = some e) (n : rsE m e = .ok) : runX ed m (es.drop i) i = runX ed (ed m e) (es.drop (i + 1)) (i + 1) := by
  rw [List.drop_eq_getElem?_toList_append, h]
  show (if rsE m e = .ok then _ else Sum.inl i) = _
  rw [if_pos n]
  rfl
theorem runX_eq {pool : List Str} : ∀ {es : List Ed} {m m' : PM} {i : Nat}, EqM m m' → GP pool m → GP pool m' → (∀ e ∈ es, EdP pool e) → match runX edM m es i, runX edW m' es i with
    | .inl a, .inl b => a = b
    | .inr a, .inr b => EqM a b ∧ GP pool a ∧ GP pool b
    | _, _ => False
  | [], m, m', i, h, g, g', _ => ⟨h, g, g'⟩
  | e :: es, m, m', i, h, g, g', p => by
    have pe := p e List.mem_cons_self
    have rq := rs_eq h e
    by_cases c : rsE m e = .ok
    · have c' : rsE m' e = .ok := rq ▸ c
      have := runX_eq (es := es) (m := edM m e) (m' := edW m' e) (i := i + 1) (eq_ed h c) (g.ed pe c) (g'.edW pe c') fun x hx => p x (List.mem_cons_of_mem _ hx)
      have e1 : runX edM m (e :: es) i = runX edM (edM m e) es (i + 1) := if_pos c
      have e2 : runX edW m' (e :: es) i = runX edW (edW m' e) es (i + 1) := if_pos c'
      rw [e1, e2]
      exact this
    · have c' : ¬ rsE m' e = .ok := fun z => c (rq.trans z)
      have e1 : runX edM m (e :: es) i = .inl i := if_neg c
      have e2 : runX edW m' (e :: es) i = .inl i := if_neg c'
      rw [e1, e2]
end K9
namespace K9
open PySem PySem.Spec PyProof.Rows L2 HotX L2H
/-! The bodies of keep, run and _law_told. -/
def t_Desk_keep (K : PySem.W.Frag) (sp_set : Sp) (E : XK) : TS := sPrp (He.ga K "Desk") sp_set (fun _ => E) (tVar 0) (tVar 1)
theorem b_Desk_keep {P : Program} {w : World} {K : PySem.W.Frag} {mg : Str → Option Value} {base : Heap} {k k_set : Nat} {sp_set : Sp} {fa : Addr} {cdv : Value} {A : Around} {outer : List Env} {s0 : Shared} {H0 : Hp} {E : XK} (T : TT K mg) (hr : Room k (A.deeper (envOfC q_Desk_keep (defScope s_Desk_keep) s0.heap.objs.size fa cdv)))
    (F_set : FnR P w K mg base (L2N.CX P w) k_set (propB K "Desk" "limit" 1) sp_set) (l_set : k_set + 2 ≤ k) :
    PSs (cxOf (L2N.CX P w) P w K mg base N_Desk_keep q_Desk_keep (defScope s_Desk_keep) fa cdv A outer s0 H0 E) (defBody s_Desk_keep) (t_Desk_keep K sp_set E) := by
  have tkN : L2N.Takes (cxOf (L2N.CX P w) P w K mg base N_Desk_keep q_Desk_keep (defScope s_Desk_keep) fa cdv A outer s0 H0 E) (fun cls d _ H => E cls d H) := L2N.takes_of rfl rfl rfl rfl
  exact (pss_one (ps_prp (pv 0) (pv 1) (cl_Desk T) (prsB_ok (prs_Desk_limit T)) F_set (hr.mono l_set) (fun σ => L2N.passAt tkN σ) rfl))
def RaisesK (K : PySem.W.Frag) (cls : Value) : Prop := ∀ (M : Model) (h : Heap), K.In h → PySem.W.Looks M h (isSubtype cls (.type "BaseException")) true ∧ PySem.W.Looks M h (typeOf cls) (.type "type")
theorem raisesK_of {K : PySem.W.Frag} {D : Addr} (c : ExcC K D) (h : PySem.W.typeIn K (.ref D) = some (.type "type")) : RaisesK K (.ref D) := fun _ _ k => ⟨PySem.W.looks_subIn k c.hs, PySem.W.looks_typeIn k h⟩
/-- the suite of run's try -/
def tsRun (K : PySem.W.Frag) (sp : Sp) (E : XK) (a : Addr) (cls : Value) (_ : Option Addr) : TS := fun _ σ H => RaisesK K cls ∧ σ[4]? = some (some (.ref a)) ∧ tMkO (He.ga K "EditFailed") sp [] (tCons (tVar 3) tNil) σ H fun cls2 d2 H' => E cls2 d2 H'
def tTryRun (K : PySem.W.Frag) (sp_init sp_edited : Sp) (E : XK) : TS := fun D σ H => (tAsg (tCallR sp_edited (WE (wAs K (.ref (He.ga K "ChoosersError")) 4 (tsRun K sp_init E) (fun cls d _ H => E cls d H) D)) (tCons (tVar 2) (tCons (tOp (rIx K) (tVar 1) (tVar 3)) tNil))) (gName 2)) D σ H
def t_Desk_run (K : PySem.W.Frag) (sp_init sp_edited sp_take : Sp) (E : XK) : TS :=
  tSeq (tAsg (tFld K (tVar 0) "_papers") (gName 2))
    (tSeq (tFor (iRng1 (tCons (tCB (rLenG K) (tCons (tVar 1) tNil)) tNil)) (gName 3) (tTryRun K sp_init sp_edited E))
    (tIfS (tTest (tOp rGt (tCB (rLenG K) (tCons (tVar 1) tNil)) (tC (.int 0)))) (tDrop (tMethA (He.ga K "Desk") "_take_step" sp_take (fun _ => E0) (tVar 0) (tCons (tVar 2) tNil))) tNext))
theorem b_Desk_run {P : Program} {w : World} {K : PySem.W.Frag} {mg : Str → Option Value} {base : Heap} {k k_init k_edited k_take : Nat} {sp_init sp_edited sp_take : Sp} {fa : Addr} {cdv : Value} {A : Around} {outer : List Env} {s0 : Shared} {H0 : Hp} {E : XK} (T : TT K mg) (hr : Room k (A.deeper (envOfC q_Desk_run (defScope s_Desk_run) s0.heap.objs.size fa cdv)))
    (F_init : ∃ fd, FnH P w K mg base CX0 k_init (He.ma K (He.ga K "EditFailed") "__init__") fd ["self", "index"] sp_init ∧ Binds K fd ["self", "index"] []) (l_init : k_init + 1 ≤ k)
    (F_edited : FnR P w K mg base (L2N.CX P w) k_edited (He.ga K "edited") sp_edited) (l_edited : k_edited ≤ k)
    (F_take : FnR P w K mg base CX0 k_take (He.ma K (He.ga K "Desk") "_take_step") sp_take) (l_take : k_take ≤ k) :
    PSs (cxOf (L2.CX P w) P w K mg base N_Desk_run q_Desk_run (defScope s_Desk_run) fa cdv A outer s0 H0 E) (defBody s_Desk_run) (t_Desk_run K sp_init sp_edited sp_take E) := by
  have tkX : L2.Takes (cxOf (L2.CX P w) P w K mg base N_Desk_run q_Desk_run (defScope s_Desk_run) fa cdv A outer s0 H0 E) (fun cls d _ H => E cls d H) := L2.takes_of rfl rfl rfl rfl
  obtain ⟨fd, F1, B1⟩ := F_init
  exact (pss_cons (ps_set (i := 2) sc_Desk_run.nd rfl (by first | exact Or.inl rfl | exact Or.inr rfl) (pe_fld (pv 0) rfl))
    (pss_cons (ps_for (L2.passes_of rfl) rfl (pi_range1 rfl (m_range T) (pa_cons (pe_callB call_lenG (by rfl) (m_len T) boot_len (pa_cons (pv 1) pa_nil)) pa_nil)) (pg_name (i := 3) sc_Desk_run.nd rfl (by first | exact Or.inl rfl | exact Or.inr rfl))
      (pss_one (ps_try_asX (i := 4) (ts := tsRun K sp_init E) (tb := fun W => tAsg (tCallR sp_edited (WE W) (tCons (tVar 2) (tCons (tOp (rIx K) (tVar 1) (tVar 3)) tNil))) (gName 2)) rfl rfl sc_Desk_run.nd rfl rfl ⟨rfl, by decide, .inl (g_ChoosersError T)⟩ (L2H.passesAt_of rfl) tkX
        (fun W pn xe tk _ => pss_one (ps_set (i := 2) sc_Desk_run.nd rfl (by first | exact Or.inl rfl | exact Or.inr rfl) (pe_cf F_edited (hr.mono l_edited) (kp_edited T) (g_edited T) (fun σ => L2N.passAt tk σ) (pa_cons (pv 2) (pa_cons (pe_ix ix_seq (pv 1) (pv 3) (fun _ _ => rfl)) pa_nil)))))
        (fun a oe cls d pn xe hz hf tk hot => pss_one (ps_raiseF (i := 4) rfl List.mem_cons_self hz hf tk (pmk5_oexH (ot_EditFailed T).oc (ot_EditFailed T).ini (ot_EditFailed T).typ F1 (roomH_mark (hr.mono l_init) _) hot B1 pass0 rfl (g_EditFailed T) (pa_cons (pv 3) pa_nil)) rfl rfl)))))
    (pss_one (ps_if (pt_cmpR op_gt (pe_callB call_lenG (by rfl) (m_len T) boot_len (pa_cons (pv 1) pa_nil)) pe_int (nomark _)) (pss_one (ps_expr (pe_cm (pv 0) (cl_Desk T) (mt_Desk__take_step T) F_take (hr.mono l_take) at0 (pa_cons (pv 2) pa_nil)))) pss_nil))))
end K9
namespace K9
open PySem PySem.Spec PyProof.Rows L2
/-! The body of _law_told. -/
abbrev tDeed (K : PySem.W.Frag) (i : Int) : TE := tOp (rIx K) (tVar 1) (tC (.int i))
abbrev tIsD (K : PySem.W.Frag) (z : String) : L2.TT := tTest (tOp (rEqG K) (tDeed K 0) (tC (.str (PySem.Str.ofString z))))
def isX (K : PySem.W.Frag) (a : Addr) (cls : Value) (d : Option Addr) (c : Str) : TE := tCB (rIsX K a cls d) (tCons (tVar 3) (tCons (tC (.ref (He.ga K c))) tNil))
/-- the suite of _law_told's try -/
def tsTold (K : PySem.W.Frag) (a : Addr) (cls : Value) (d : Option Addr) : TS :=
  tSeq (tAsg (tTup (tCons (isX K a cls d "EditFailed") (tCons (isX K a cls d "NoStep") (tCons (isX K a cls d "OutOfRange") tNil)))) (gName 4))
    (tSeq (tIfS (tTest (tOp (rEqG K) (tVar 4) (tTup (tCons (tC (.bl true)) (tCons (tC (.bl false)) (tCons (tC (.bl false)) tNil)))))) (tRet (tTup (tCons (tC (.str (PySem.Str.ofString "failed"))) (tCons (tXf a cls d (He.ga K "EditFailed") "index" (tVar 3)) tNil)))) tNext)
    (tRet (tTup (tCons (tC (.str (PySem.Str.ofString "refused"))) (tCons (tVar 4) tNil)))))
def tbTold (K : PySem.W.Frag) (sp_run_told sp_undo sp_redo sp_keep sp_edit_told : Sp) (W : WX) : TS :=
  tIfS (tIsD K "run") (tAsg (tCallR sp_run_told (WE W) (tCons (tVar 0) (tCons (tDeed K 1) tNil))) (gName 2))
  (tIfS (tIsD K "undo") (tAsg (tMethA (He.ga K "Desk") "undo" sp_undo (WE W) (tVar 0) tNil) (gName 2))
  (tIfS (tIsD K "redo") (tAsg (tMethA (He.ga K "Desk") "redo" sp_redo (WE W) (tVar 0) tNil) (gName 2))
  (tIfS (tIsD K "keep") (tAsg (tMethA (He.ga K "Desk") "keep" sp_keep (WE W) (tVar 0) (tCons (tDeed K 1) tNil)) (gName 2))
  (tAsg (tCallR sp_edit_told (WE W) (tCons (tVar 0) (tCons (tVar 1) tNil))) (gName 2)))))
def tTryTold (K : PySem.W.Frag) (sp_run_told sp_undo sp_redo sp_keep sp_edit_told : Sp) : TS := fun D σ H => tbTold K sp_run_told sp_undo sp_redo sp_keep sp_edit_told (wAs K (.ref (He.ga K "ChoosersError")) 3 (tsTold K) (fun _ _ _ _ => False) D) D σ H
def t__law_told (K : PySem.W.Frag) (sp_run_told sp_undo sp_redo sp_keep sp_edit_told : Sp) : TS :=
  tSeq (tAsg (tC .non) (gName 2)) (tSeq (tTryTold K sp_run_told sp_undo sp_redo sp_keep sp_edit_told) (tRet (tTup (tCons (tC (.str (PySem.Str.ofString "done"))) (tCons (tOp rIsNo (tVar 2) (tC .non)) tNil)))))
theorem b__law_told {P : Program} {w : World} {K : PySem.W.Frag} {mg : Str → Option Value} {base : Heap} {k k1 k2 k3 k4 k5 : Nat} {sp_run_told sp_undo sp_redo sp_keep sp_edit_told : Sp} {fa : Addr} {cdv : Value} {A : Around} {outer : List Env} {s0 : Shared} {H0 : Hp} {E : XK} (T : TT K mg) (hr : Room k (A.deeper (envOfC q__law_told (defScope s__law_told) s0.heap.objs.size fa cdv)))
    (F1 : FnR P w K mg base (L2.CX P w) k1 (He.ga K "_law_run_told") sp_run_told) (l1 : k1 ≤ k)
    (F2 : FnR P w K mg base (L2N.CX P w) k2 (He.ma K (He.ga K "Desk") "undo") sp_undo) (l2 : k2 ≤ k)
    (F3 : FnR P w K mg base (L2N.CX P w) k3 (He.ma K (He.ga K "Desk") "redo") sp_redo) (l3 : k3 ≤ k)
    (F4 : FnR P w K mg base (L2N.CX P w) k4 (He.ma K (He.ga K "Desk") "keep") sp_keep) (l4 : k4 ≤ k)
    (F5 : FnR P w K mg base (L2N.CX P w) k5 (He.ga K "_law_edit_told") sp_edit_told) (l5 : k5 ≤ k) :
    PSs (cxOf CX0 P w K mg base N__law_told q__law_told (defScope s__law_told) fa cdv A outer s0 H0 E).nox (defBody s__law_told) (t__law_told K sp_run_told sp_undo sp_redo sp_keep sp_edit_told) := by
  exact (pss_cons (ps_set (i := 2) sc__law_told.nd rfl (by first | exact Or.inl rfl | exact Or.inr rfl) pe_non)
    (pss_cons (ps_try_as (i := 3) (ts := tsTold K) (tb := tbTold K sp_run_told sp_undo sp_redo sp_keep sp_edit_told) rfl rfl sc__law_told.nd rfl rfl ⟨rfl, by decide, .inl (g_ChoosersError T)⟩ takes0
      (fun W pn xe tk _ => pss_one (ps_if (pt_cmpR (op_eqG hr.units) (pe_ix ix_seq (pv 1) pe_int (fun _ _ => rfl)) pe_str (nomark _)) (pss_one (ps_set (i := 2) sc__law_told.nd rfl (by first | exact Or.inl rfl | exact Or.inr rfl) (pe_cf F1 (hr.mono l1) (kp__law_run_told T) (g__law_run_told T) (fun σ => L2.passAt tk σ) (pa_cons (pv 0) (pa_cons (pe_ix ix_seq (pv 1) pe_int (fun _ _ => rfl)) pa_nil)))))
        (pss_one (ps_if (pt_cmpR (op_eqG hr.units) (pe_ix ix_seq (pv 1) pe_int (fun _ _ => rfl)) pe_str (nomark _)) (pss_one (ps_set (i := 2) sc__law_told.nd rfl (by first | exact Or.inl rfl | exact Or.inr rfl) (pe_cm0 (pv 0) (cl_Desk T) (mt_Desk_undo T) (FnR.ofN F2) (hr.mono l2) (fun σ => L2.passAt tk σ))))
        (pss_one (ps_if (pt_cmpR (op_eqG hr.units) (pe_ix ix_seq (pv 1) pe_int (fun _ _ => rfl)) pe_str (nomark _)) (pss_one (ps_set (i := 2) sc__law_told.nd rfl (by first | exact Or.inl rfl | exact Or.inr rfl) (pe_cm0 (pv 0) (cl_Desk T) (mt_Desk_redo T) (FnR.ofN F3) (hr.mono l3) (fun σ => L2.passAt tk σ))))
        (pss_one (ps_if (pt_cmpR (op_eqG hr.units) (pe_ix ix_seq (pv 1) pe_int (fun _ _ => rfl)) pe_str (nomark _)) (pss_one (ps_set (i := 2) sc__law_told.nd rfl (by first | exact Or.inl rfl | exact Or.inr rfl) (pe_cm (pv 0) (cl_Desk T) (mt_Desk_keep T) (FnR.ofN F4) (hr.mono l4) (fun σ => L2.passAt tk σ) (pa_cons (pe_ix ix_seq (pv 1) pe_int (fun _ _ => rfl)) pa_nil))))
        (pss_one (ps_set (i := 2) sc__law_told.nd rfl (by first | exact Or.inl rfl | exact Or.inr rfl) (pe_cf (FnR.ofN F5) (hr.mono l5) (kp__law_edit_told T) (g__law_edit_told T) (fun σ => L2.passAt tk σ) (pa_cons (pv 0) (pa_cons (pv 1) pa_nil)))))))))))))
      (fun a oe cls d pn hz hf => pss_cons (ps_set (i := 4) sc__law_told.nd rfl (by first | exact Or.inl rfl | exact Or.inr rfl) (pe_tup (pa_cons (pe_callB (call_isX hz hf) (by rfl) (m_isinstance T) (by decide +kernel) (pa_cons (pv 3) (pa_cons (pe_gr (g_EditFailed T)) pa_nil)))
          (pa_cons (pe_callB (call_isX hz hf) (by rfl) (m_isinstance T) (by decide +kernel) (pa_cons (pv 3) (pa_cons (pe_gr (g_NoStep T)) pa_nil))) (pa_cons (pe_callB (call_isX hz hf) (by rfl) (m_isinstance T) (by decide +kernel) (pa_cons (pv 3) (pa_cons (pe_gr (g_OutOfRange T)) pa_nil))) pa_nil)))))
        (pss_cons (ps_if (pt_cmpR (op_eqG hr.units) (pv 4) (pe_tup (pa_cons pe_bl (pa_cons pe_bl (pa_cons pe_bl pa_nil)))) (nomark _)) (pss_one (ps_ret (pe_tup (pa_cons pe_str (pa_cons (pe_xf ⟨(excCB_ok (xc_EditFailed T)).hg, (excCB_ok (xc_EditFailed T)).hk, (excCB_ok (xc_EditFailed T)).hs, (excCB_ok (xc_EditFailed T)).hd⟩ (ot_EditFailed T).noF hz hf (pv 3)) pa_nil))))) pss_nil)
        (pss_one (ps_ret (pe_tup (pa_cons pe_str (pa_cons (pv 4) pa_nil))))))))
    (pss_one (ps_ret (pe_tup (pa_cons pe_str (pa_cons (pe_cmpR op_isN (pv 2) pe_non (nomark _)) pa_nil)))))))
end K9
namespace K9
open PySem PySem.Spec PyProof.Rows L2
/-! ### words of tactics -/
local macro_rules | `(tactic| walk_at "hp") => `(tactic| (first
  | assumption | exact upd_same
  | (refine Ch.at0 (H := ?hpH) ?hpc ?hph; (case hpc => assumption); (case hph => walk_at "hp"))
  | (refine Ch.tup (M := ?hpM) (H := ?hpH) ?hpc ?hph; (case hpc => assumption); (case hph => walk_at "hp"))
  | (refine Ch.at (M := ?hpM) (H := ?hpH) ?hpc ?hph ?hpn; (case hpc => assumption); (case hph => walk_at "hp"); (case hpn => walk_at "ni"))
  | fail "hp"))
local macro_rules | `(tactic| walk_at "ni") => `(tactic| (first | exact ni0 | assumption | (refine ni1 ?nia ?nib; (case nia => walk_at "nq"); (case nib => walk_at "ni")) | fail "ni"))
local macro_rules | `(tactic| walk_at "nq") => `(tactic| (first | assumption | exact Ne.symm (by assumption) | (refine ne_of_none (H := ?nqH) (o := ?nqo) ?nqa ?nqb; (case nqb => assumption); (case nqa => walk_at "hp")) | (refine Ne.symm (ne_of_none (H := ?nqH) (o := ?nqo) ?nqa ?nqb); (case nqb => assumption); (case nqa => walk_at "hp")) | fail "nq"))
local macro_rules | `(tactic| walk_at "sq") => `(tactic| (first
  | assumption | exact SqL.of (by assumption)
  | (refine Ch.sql (M := ?sqM) (H := ?sqH) ?sqc ?sqh ?sqn; (case sqc => assumption); (case sqh => walk_at "sq"); (case sqn => walk_at "ni"))
  | fail "sq"))
local macro_rules | `(tactic| walk_at "tq") => `(tactic| (first
  | assumption | exact SqT.of (by assumption)
  | (refine Ch.sqt (M := ?tqM) (H := ?tqH) ?tqc ?tqh; (case tqc => assumption); (case tqh => walk_at "tq"))
  | fail "tq"))
local macro_rules | `(tactic| walk_at "rd1") => `(tactic| (first
  | ((with_reducible refine te_var (v := ?rdw) ?rdv ?_); (case rdv => exact rfl))
  | (with_reducible (first
  | refine te_c ?_ | refine te_op ?_ | refine te_nil ?_ | refine te_cons ?_ | refine te_cb ?_ | refine te_callR ?_ | refine te_tup ?_ | refine te_lst ?_
  | refine ts_seq ?_ | refine ts_asg ?_ | refine tg_name ?_ | refine ts_ret ?_ | refine ts_retN ?_ | refine ts_if ?_ | refine ts_drop ?_ | refine ts_next ?_ | refine tg_sub ?_
  | refine nd_nx ?_ | refine nd_rt ?_ | refine nd_bk ?_ | refine nd_ct ?_
  | refine tt_test ?_ | refine tt_b ?_ | refine tt_and ?_ | refine tt_or ?_ | refine tt_not ?_ | refine blq ?_ | refine inq ?_ | refine iteT ?_ | refine iteF ?_
  | refine te_then ?_ | refine te_if ?_ | refine te_sl ?_ | refine te_part ?_ | refine te_chain ?_ | refine te_andV ?_ | refine te_orV ?_ | refine te_notV ?_ | refine te_un ?_
  | refine te_din ?_ | refine te_dni ?_ | refine te_dgt ?_ | refine ts_dpt ?_ | refine ts_for ?_ | refine ti_rng ?_ | refine ti_rng2 ?_ | refine ti_lst ?_ | refine ti_tup ?_ | refine ti_str ?_ | refine ti_key ?_ | refine strq ?_ | refine te_lc ?_ | refine te_dc ?_ | refine tt_yes ?_
  | refine r_addI ?_ | refine r_I0 ?_ | refine r_eqI ?_ | refine r_eqS ?_ | refine r_neI ?_ | refine r_neS ?_ | refine r_U ?_ | refine r_intI ?_ | refine r_intB ?_))
  | ((with_reducible refine r_ixL (xs := ?rdx) (v := ?rdw) ?rdh ?rde ?_); (case rdh => walk_at "sq"); (case rde => exact rfl))
  | ((with_reducible refine r_ixT (xs := ?rdx) (v := ?rdw) ?rdh ?rde ?_); (case rdh => walk_at "tq"); (case rde => exact rfl))
  | ((with_reducible refine r_lenL (xs := ?rdx) ?rdh ?_); (case rdh => walk_at "sq"))
  | ((with_reducible refine r_lenT (xs := ?rdx) ?rdh ?_); (case rdh => walk_at "tq"))
  | ((with_reducible refine r_lenD (kvs := ?rdx) ?rdh ?_); (case rdh => walk_at "hp"))
  | ((with_reducible refine r_set' (xs := ?rdx) (j := ?rdj) ?rdh ?rde ?_); (case rdh => walk_at "hp"); (case rde => exact rfl); (intro rH rc rh))
  | ((with_reducible refine newT ?rdc ?_); (case rdc => (simp; done)); (intro rp rH rn rc rh))
  | ((with_reducible refine newL ?rdc ?_); (case rdc => (simp; done)); (intro rp rH rn rc rh))
  | ((with_reducible refine te_dnw ?_); (intro rp rH rn rc rh))
  | ((with_reducible refine lisq (xs := ?rdx) ?rdh ?_); (case rdh => walk_at "sq"))
  | ((with_reducible refine tupq (xs := ?rdx) ?rdh ?_); (case rdh => walk_at "tq"))
  | ((with_reducible refine rngq ?rdc ?_); (case rdc => walk_at "sd"))
  | ((with_reducible refine r_I ?rdc ?_); (case rdc => walk_at "sd"))
  | ((with_reducible refine r_mulI ?rdc ?_); (case rdc => omega))
  | fail "rd"))
local macro_rules | `(tactic| walk_at "sd") => `(tactic| (first | (constructor <;> omega) | omega | decide | (refine ⟨?_, ?_, ?_⟩ <;> decide)))
local macro_rules | `(tactic| walk_at "rd") => `(tactic| repeat (walk_at "rd1"))
local macro_rules | `(tactic| walk_at "ch") => `(tactic| (first
  | assumption | exact Ch.refl | exact Ch.nil (by assumption)
  | (refine Ch.trans (H1 := ?chm) ?cha ?chb; (case chb => (first | assumption | exact Ch.nil (by assumption) | (refine Ch.mono (M := ?chl) ?chx ?chy; (case chx => assumption); (case chy => (intro _ chz; simp at chz ⊢; simp [chz]))))); (case cha => walk_at "ch"))
  | fail "ch"))
local macro_rules | `(tactic| walk_at "nx") => `(tactic| repeat (with_reducible (first | refine ts_next ?_ | refine nd_nx ?_)))
local macro_rules | `(tactic| walk_at "dm") => `(tactic| (first | assumption | (refine Dt.mono (M := ?dmM) (H := ?dmH) ?dmc ?dmh; (case dmc => assumption); (case dmh => walk_at "dm")) | fail "dm"))
local macro_rules | `(tactic| walk_at "dt") => `(tactic| (first | exact Dt.int _ | exact Dt.str _ | exact Dt.bl _ | exact Dt.non | walk_at "dm" | (refine Dt.tup (xs := ?dtx) ?dta ?dtb; (case dta => walk_at "tq"); (case dtb => walk_at "dts")) | fail "dt"))
local macro_rules | `(tactic| walk_at "dsm") => `(tactic| (first | assumption | (refine Dts.mono (M := ?dmM) (H := ?dmH) ?dmc ?dmh; (case dmc => assumption); (case dmh => walk_at "dsm")) | fail "dsm"))
local macro_rules | `(tactic| walk_at "dts") => `(tactic| (first | exact Dts.nil | walk_at "dsm" | (refine Dts.cons ?dtsa ?dtsb; (case dtsa => walk_at "dt"); (case dtsb => walk_at "dts")) | fail "dts"))
local macro_rules | `(tactic| walk_at "it") => `(tactic| (first | refine itT (by rfl) ?_ | refine itF (by rfl) ?_ | fail "it"))
local macro_rules | `(tactic| walk_at "if") => `(tactic| with_reducible (first | refine iteF ?_ | refine iteT ?_))
local macro_rules | `(tactic| walk_at "itk") => `(tactic| (first | (refine itT ?itk ?_; (case itk => decide +kernel)) | (refine itF ?itk ?_; (case itk => decide +kernel)) | fail "itk"))
local macro_rules | `(tactic| walk_at "rd1") => `(tactic| (first
  | (with_reducible (first | refine ts_fld ?_ | refine te_fld ?_ | refine te_app ?_ | refine te_pop ?_))
  | ((with_reducible refine' gt_papers ?rdt ?rdh ?rdk); (case rdt => assumption); (case rdh => walk_at "hp"))
  | ((with_reducible refine' gt_done ?rdt ?rdh ?rdk); (case rdt => assumption); (case rdh => walk_at "hp"))
  | ((with_reducible refine' gt_undone ?rdt ?rdh ?rdk); (case rdt => assumption); (case rdh => walk_at "hp"))
  | ((with_reducible refine' gt_limit ?rdt ?rdh ?rdk); (case rdt => assumption); (case rdh => walk_at "hp"))
  | ((with_reducible refine' st_papers ?rdt ?rdh ?rdk); (case rdt => assumption); (case rdh => walk_at "hp"); (intro rH rc rh))
  | ((with_reducible refine' st_done ?rdt ?rdh ?rdk); (case rdt => assumption); (case rdh => walk_at "hp"); (intro rH rc rh))
  | ((with_reducible refine' st_undone ?rdt ?rdh ?rdk); (case rdt => assumption); (case rdh => walk_at "hp"); (intro rH rc rh))
  | ((with_reducible refine' st_limit ?rdt ?rdh ?rdk); (case rdt => assumption); (case rdh => walk_at "hp"); (intro rH rc rh))
  | fail "rdD"))
/-! keep and run, walked. -/
theorem pure_keep {K : PySem.W.Frag} {mg : Str → Option Value} (T : TT K mg) (vs : List V) (H : Hp) (Q : VK) (E : XK) (h : spLimM K vs H Q E) : t_Desk_keep K (spLimM K) E { nx := fun _ H' => Q .non H', rt := Q } (L2.start N_Desk_keep vs) H := by
  obtain ⟨F, dk, s, i, rfl, D, kE, kS⟩ := h
  have D' := D
  obtain ⟨n, pp, dl, ul, dna, una, rfl, ⟨⟨dx, ob⟩, _⟩, _⟩ := D'
  unfold t_Desk_keep
  refine ts_prp ?_
  walk_at "rd"
  exact ⟨dk, dx, _, rfl, ob, _, dk, s, i, rfl, D, kE, kS⟩
/-- what is known of an error's class -/
structure ErrK (K : PySem.W.Frag) (cls : Value) (f1 f2 f3 : Bool) : Prop where
  ex : ∃ D, cls = .ref D ∧ ExcC K D ∧ PySem.W.typeIn K (.ref D) = some (.type "type") ∧ PySem.W.exmOne K (.ref D) (.ref (He.ga K "ChoosersError")) = some true ∧
    PySem.W.kitOne K (.ref D) (.ref (He.ga K "EditFailed")) = some f1 ∧ PySem.W.kitOne K (.ref D) (.ref (He.ga K "NoStep")) = some f2 ∧ PySem.W.kitOne K (.ref D) (.ref (He.ga K "OutOfRange")) = some f3
section
variable {K : PySem.W.Frag} {mg : Str → Option Value} (T : TT K mg)
include T
theorem err_InvalidTerm : ErrK K (.ref (He.ga K "InvalidTerm")) false false false := ⟨_, rfl, excCB_ok (xc_InvalidTerm T), (ot_InvalidTerm T).oc.tyC, of_decide_eq_true (xm_InvalidTerm T), of_decide_eq_true (ki_InvalidTerm_EditFailed T), of_decide_eq_true (ki_InvalidTerm_NoStep T), of_decide_eq_true (ki_InvalidTerm_OutOfRange T)⟩
theorem err_UnknownName : ErrK K (.ref (He.ga K "UnknownName")) false false false := ⟨_, rfl, excCB_ok (xc_UnknownName T), (ot_UnknownName T).oc.tyC, of_decide_eq_true (xm_UnknownName T), of_decide_eq_true (ki_UnknownName_EditFailed T), of_decide_eq_true (ki_UnknownName_NoStep T), of_decide_eq_true (ki_UnknownName_OutOfRange T)⟩
theorem err_NameTaken : ErrK K (.ref (He.ga K "NameTaken")) false false false := ⟨_, rfl, excCB_ok (xc_NameTaken T), (ot_NameTaken T).oc.tyC, of_decide_eq_true (xm_NameTaken T), of_decide_eq_true (ki_NameTaken_EditFailed T), of_decide_eq_true (ki_NameTaken_NoStep T), of_decide_eq_true (ki_NameTaken_OutOfRange T)⟩
theorem err_EditFailed : ErrK K (.ref (He.ga K "EditFailed")) true false false := ⟨_, rfl, excCB_ok (xc_EditFailed T), (ot_EditFailed T).oc.tyC, of_decide_eq_true (xm_EditFailed T), of_decide_eq_true (ki_EditFailed_EditFailed T), of_decide_eq_true (ki_EditFailed_NoStep T), of_decide_eq_true (ki_EditFailed_OutOfRange T)⟩
theorem err_OutOfRange : ErrK K (.ref (He.ga K "OutOfRange")) false false true := ⟨_, rfl, excCB_ok (xc_OutOfRange T), (on_OutOfRange T).ty, of_decide_eq_true (xm_OutOfRange T), of_decide_eq_true (ki_OutOfRange_EditFailed T), of_decide_eq_true (ki_OutOfRange_NoStep T), of_decide_eq_true (ki_OutOfRange_OutOfRange T)⟩
theorem err_InvalidName : ErrK K (.ref (He.ga K "InvalidName")) false false false := ⟨_, rfl, excCB_ok (xc_InvalidName T), (on_InvalidName T).ty, of_decide_eq_true (xm_InvalidName T), of_decide_eq_true (ki_InvalidName_EditFailed T), of_decide_eq_true (ki_InvalidName_NoStep T), of_decide_eq_true (ki_InvalidName_OutOfRange T)⟩
theorem err_NoStep : ErrK K (.ref (He.ga K "NoStep")) false true false := ⟨_, rfl, excCB_ok (xc_NoStep T), (on_NoStep T).ty, of_decide_eq_true (xm_NoStep T), of_decide_eq_true (ki_NoStep_EditFailed T), of_decide_eq_true (ki_NoStep_NoStep T), of_decide_eq_true (ki_NoStep_OutOfRange T)⟩
theorem err_of {r : Rs} {cls : Value} (h : ExcR K r cls) : ErrK K cls false false (decide (r = .kind)) := by
  cases r with
  | ok => exact h.elim
  | name => obtain rfl : cls = _ := h; exact err_InvalidName T
  | kind => obtain rfl : cls = _ := h; exact err_OutOfRange T
  | term => obtain rfl : cls = _ := h; exact err_InvalidTerm T
  | unknown => obtain rfl : cls = _ := h; exact err_UnknownName T
  | new =>
    rcases h with rfl | rfl
    · exact err_InvalidName T
    · exact err_NameTaken T
end
/-- run(*edits): the body's promise -/
def spRunB (K : PySem.W.Frag) : Sp := fun vs H Q E => ∃ F dk s p evs es pool, vs = [.ref dk, .ref p] ∧ DkM K H F dk s ∧ SqT K H p evs ∧ Dts K H evs (es.map Ed.dat) ∧ es.length ≤ 1000 ∧ GP pool s.m ∧ (∀ e ∈ es, EdP pool e) ∧
  (∀ m', runX edM s.m es 0 = .inr m' → ∀ F' H', DkM K H' F' dk (if es = [] then s else takeM s m') → Adv H F H' F' → Q .non H') ∧
  (∀ i, runX edM s.m es 0 = .inl i → ∀ dd H', Ch [] H H' → H' dd = some (.xd [("index", .int (i : Int))]) → E (.ref (He.ga K "EditFailed")) (some dd) H')
theorem dts_get {K : PySem.W.Frag} {H : Hp} {evs : List V} {es : List Ed} {i : Nat} (h : Dts K H evs (es.map Ed.dat)) (hi : i < es.length) : ∃ ev e, evs[i]? = some ev ∧ es[i]? = some e ∧ Dt K H ev e.dat := by
  have l := h.len
  rw [List.length_map] at l
  have hv : evs[i]? = some evs[i] := List.getElem?_eq_getElem (by omega)
  obtain ⟨d, h1, h2⟩ := h.get hv
  rw [List.getElem?_map, List.getElem?_eq_getElem hi] at h1
  refine ⟨evs[i], es[i], hv, List.getElem?_eq_getElem hi, ?_⟩
  have : d = es[i].dat := by simpa using h1.symm
  rw [← this]
  exact h2
theorem pure_run {K : PySem.W.Frag} {mg : Str → Option Value} (T : TT K mg) (vs : List V) (H : Hp) (Q : VK) (E : XK) (h : spRunB K vs H Q E) :
    t_Desk_run K (spI1 K "EditFailed" "index") (spEdit K) (spTakeM K) E { nx := fun _ H' => Q .non H', rt := Q } (L2.start N_Desk_run vs) H := by
  obtain ⟨F, dk, s, p, evs, es, pool, rfl, D, hq, hev, hes, gp, hp, kS, kE⟩ := h
  have D' := D
  obtain ⟨n, pp, dl, ul, dna, una, eF, ⟨⟨dx, ob⟩, _⟩, hpp, _⟩ := D'
  have hl := hev.len
  rw [List.length_map] at hl
  unfold t_Desk_run
  walk_at "rd"
  refine forq walks_rng (fun i σ H' => ∃ mp mi v3 v4, σ = [some (.ref dk), some (.ref p), some (.ref mp), v3, v4] ∧ Ch [] H H' ∧ PapAt K H' mp mi ∧ GP pool mi ∧ runX edM s.m es 0 = runX edM mi (es.drop i) i ∧ ((i = 0 ∧ mi = s.m) ∨ H mp = none)) ?_ (fun _ _ _ _ => trivial) ?_ ?_
  · exact ⟨pp, s.m, _, _, rfl, Ch.refl, hpp, gp, rfl, .inl ⟨rfl, rfl⟩⟩
  · rintro i x σ H' hi rfl ⟨mp, mi, v3, v4, rfl, c, hm, g, hrun, hfr⟩
    have hi' : i < es.length := by rw [← hl]; simpa using hi
    obtain ⟨ev, e, h1, h2, h3⟩ := dts_get hev hi'
    have pe := hp e (List.mem_of_getElem? h2)
    have q0 : (0 : Int) + (i : Int) = (i : Int) := by omega
    rw [q0]
    refine tg_name ?_
    show (tAsg (tCallR (spEdit K) _ _) _) _ _ _
    refine ts_asg (te_callR ?_)
    walk_at "rd"
    refine r_ixT (c.sqt hq) (atI_nat h1) ?_
    walk_at "rd"
    refine ⟨mp, mi, ev, e, rfl, hm, h3.mono c, g.gm, Nat.le_trans g.len (by decide), g.ok pe, fun rs p' H2 np hp' c2 => ?_, fun cls dd H2 hx c2 xd => ?_⟩
    · walk_at "rd"
      refine ⟨p', edM mi e, _, _, rfl, c.trans c2, hp', g.ed pe rs, hrun.trans (runX_go h2 rs), .inr (c.dom _ np)⟩
    · obtain ⟨D0, rfl, hC, hT, hX, _⟩ := (err_of T hx).ex
      refine ⟨true, hX, fun _ a na => ⟨raisesK_of hC hT, rfl, ?_⟩, fun z => by cases z⟩
      show tCons (tVar 3) tNil _ H2 fun vs H1 => RaQ (He.ga K "EditFailed") "index" E vs H1
      walk_at "rd"
      refine raq fun d3 H3 n3 c3 e3 => kE i ?_ d3 H3 ((c.trans c2).trans c3) e3
      rw [hrun]
      exact runX_stop h2 fun z => by rw [z] at hx; exact hx.elim
  · rintro σ H' ⟨mp, mi, v3, v4, rfl, c, hm, g, hrun, hfr⟩
    have ed : es.drop ((evs.length : Int).toNat) = [] := List.drop_eq_nil_of_le (by simp; omega)
    rw [ed] at hrun
    walk_at "rd"
    by_cases z : es = []
    · subst z
      refine itF (decide_eq_false (by simp at hl; simp [hl])) ?_
      walk_at "nx"
      exact kS mi hrun F H' (by rw [if_pos rfl]; exact D.at0 c) (Adv.nil c)
    · have pos : 0 < es.length := List.length_pos_iff.mpr z
      refine itT (decide_eq_true (by omega)) ?_
      refine ts_drop (te_mth ?_)
      walk_at "rd"
      refine mthq (c.at0 ob) (lk_meth n pp dl ul s.lim).2.1 ?_
      walk_at "rd"
      have nm : H mp = none := by
        rcases hfr with ⟨h0, _⟩ | h
        · exfalso
          have : (evs.length : Int).toNat = evs.length := by simp
          omega
        · exact h
      refine take_post (E' := E0) H Q D nm hm c fun F' H2 D2 a2 => kS mi hrun F' H2 (by rw [if_neg z]; exact D2) a2
/-! _law_run_told, _law_edit_told, the suite of _law_told. -/
def RunPost (K : PySem.W.Frag) (F : List Addr) (dk : Addr) (s : MS) (es : List Ed) (pool : List Str) (H : Hp) (Q : VK) (E : XK) : Prop := DkM K H F dk s ∧ GP pool s.m ∧ (∀ e ∈ es, EdP pool e) ∧
  (∀ m', runX edM s.m es 0 = .inr m' → ∀ F' H', DkM K H' F' dk (if es = [] then s else takeM s m') → Adv H F H' F' → Q .non H') ∧
  (∀ i, runX edM s.m es 0 = .inl i → ∀ dd H', Ch [] H H' → H' dd = some (.xd [("index", .int (i : Int))]) → E (.ref (He.ga K "EditFailed")) (some dd) H')
def spRunM (K : PySem.W.Frag) : Sp := fun vs H Q E => ∃ F dk s evs es pool, vs = .ref dk :: evs ∧ Dts K H evs (es.map Ed.dat) ∧ es.length ≤ 1000 ∧ RunPost K F dk s es pool H Q E
def spRunS (K : PySem.W.Frag) : Sp := fun vs H Q E => ∃ ws rest, vs = ws ++ rest ∧ ws.length = 1 ∧ rest.length ≤ sizeLine ∧ ∀ p, H p = Option.none → spRunB K (ws ++ [V.ref p]) (upd H p (.tup rest)) Q E
theorem run_m {K : PySem.W.Frag} : ∀ vs H Q E, spRunM K vs H Q E → spRunS K vs H Q E := by
  rintro vs H Q E ⟨F, dk, s, evs, es, pool, rfl, hd, hl, D, gp, hp, kS, kE⟩
  have l := hd.len
  rw [List.length_map] at l
  refine ⟨[.ref dk], evs, rfl, rfl, by rw [sizeLine_eq]; omega, fun p np => ?_⟩
  have c : Ch [] H (upd H p (.tup evs)) := Ch.new np
  refine ⟨F, dk, s, p, evs, es, pool, rfl, D.at0 c, SqT.of upd_same, hd.mono c, hl, gp, hp, fun m' e F' H' D' a => kS m' e F' H' D' ((Adv.nil c).trans a), fun i e dd H' c2 h => kE i e dd H' (c.trans c2) h⟩
def spRunT (K : PySem.W.Frag) : Sp := fun vs H Q E => ∃ F dk s l evs es pool, vs = [.ref dk, .ref l] ∧ SqL K H l evs ∧ Dts K H evs (es.map Ed.dat) ∧ (es.length ≤ 4 ∨ es.length = 9) ∧ RunPost K F dk s es pool H Q E
theorem pure_run_told {K : PySem.W.Frag} {mg : Str → Option Value} (T : TT K mg) (vs : List V) (H : Hp) (Q : VK) (E : XK) (h : spRunT K vs H Q E) : t__law_run_told K (spRunM K) E { nx := fun _ H' => Q .non H', rt := Q } (L2.start N__law_run_told vs) H := by
  obtain ⟨F, dk, s, l, evs, es, pool, rfl, hq, hd, hl, P⟩ := h
  have hlen := hd.len
  rw [List.length_map] at hlen
  have P' := P
  obtain ⟨⟨n, pp, dl, ul, dna, una, eF, ⟨⟨dx, ob⟩, _⟩, _⟩, _⟩ := P'
  have lk : (dfl n pp dl ul s.lim).lookup ("run" : Str) = none := (lk_meth n pp dl ul s.lim).2.2.2.2.2.2.2.2.1
  have fin : spRunM K (.ref dk :: evs) H Q E := ⟨F, dk, s, evs, es, pool, rfl, hd, by omega, P⟩
  unfold t__law_run_told
  match evs, hq, hd, hlen, fin with
  | [], hq, hd, hlen, fin =>
    walk_at "rd"
    refine itT (by rfl) ?_
    refine ts_ret (te_mth ?_)
    walk_at "rd"
    refine mthq ob lk ?_
    walk_at "rd"
    exact fin
  | [a], hq, hd, hlen, fin =>
    walk_at "rd"
    refine itF (by rfl) ?_
    walk_at "nx"
    walk_at "rd"
    refine itT (by rfl) ?_
    refine ts_ret (te_mth ?_)
    walk_at "rd"
    refine mthq ob lk ?_
    walk_at "rd"
    exact fin
  | [a, b], hq, hd, hlen, fin =>
    walk_at "rd"
    refine itF (by rfl) ?_
    walk_at "nx"
    walk_at "rd"
    refine itF (by rfl) ?_
    walk_at "nx"
    walk_at "rd"
    refine itT (by rfl) ?_
    refine ts_ret (te_mth ?_)
    walk_at "rd"
    refine mthq ob lk ?_
    walk_at "rd"
    exact fin
  | [a, b, c], hq, hd, hlen, fin =>
    walk_at "rd"
    refine itF (by rfl) ?_
    walk_at "nx"
    walk_at "rd"
    refine itF (by rfl) ?_
    walk_at "nx"
    walk_at "rd"
    refine itF (by rfl) ?_
    walk_at "nx"
    walk_at "rd"
    refine itT (by rfl) ?_
    refine ts_ret (te_mth ?_)
    walk_at "rd"
    refine mthq ob lk ?_
    walk_at "rd"
    exact fin
  | [a, b, c, d], hq, hd, hlen, fin =>
    walk_at "rd"
    refine itF (by rfl) ?_
    walk_at "nx"
    walk_at "rd"
    refine itF (by rfl) ?_
    walk_at "nx"
    walk_at "rd"
    refine itF (by rfl) ?_
    walk_at "nx"
    walk_at "rd"
    refine itF (by rfl) ?_
    walk_at "nx"
    walk_at "rd"
    refine itF (by rfl) ?_
    walk_at "nx"
    refine ts_ret (te_mth ?_)
    walk_at "rd"
    refine mthq ob lk ?_
    walk_at "rd"
    exact fin
  | [a, b, c, d, e, f, g, i, j], hq, hd, hlen, fin =>
    walk_at "rd"
    refine itF (by rfl) ?_
    walk_at "nx"
    walk_at "rd"
    refine itF (by rfl) ?_
    walk_at "nx"
    walk_at "rd"
    refine itF (by rfl) ?_
    walk_at "nx"
    walk_at "rd"
    refine itF (by rfl) ?_
    walk_at "nx"
    walk_at "rd"
    refine itT (by rfl) ?_
    refine ts_ret (te_mth ?_)
    walk_at "rd"
    refine mthq ob lk ?_
    walk_at "rd"
    exact fin
  | [_, _, _, _, _], _, _, hlen, _ => simp at hlen; omega
  | [_, _, _, _, _, _], _, _, hlen, _ => simp at hlen; omega
  | [_, _, _, _, _, _, _], _, _, hlen, _ => simp at hlen; omega
  | [_, _, _, _, _, _, _, _], _, _, hlen, _ => simp at hlen; omega
  | _ :: _ :: _ :: _ :: _ :: _ :: _ :: _ :: _ :: _ :: r, _, _, hlen, _ => simp at hlen; omega
def spEditT (K : PySem.W.Frag) : Sp := fun vs H Q E => ∃ F dk s ev e, vs = [.ref dk, ev] ∧ Dt K H ev (Ed.dat e) ∧ EdPost K F dk s e H Q E
theorem pure_edit_told {K : PySem.W.Frag} {mg : Str → Option Value} (T : TT K mg) (vs : List V) (H : Hp) (Q : VK) (E : XK) (h : spEditT K vs H Q E) : t__law_edit_told K (spPutM K) (spDropM K) (spRenM K) E { nx := fun _ H' => Q .non H', rt := Q } (L2.start N__law_edit_told vs) H := by
  obtain ⟨F, dk, s, ev, e, rfl, he, P⟩ := h
  have P' := P
  obtain ⟨⟨n, pp, dl, ul, dna, una, eF, ⟨⟨dx, ob⟩, _⟩, _⟩, _⟩ := P'
  unfold t__law_edit_told
  cases e with
  | put z k d =>
    obtain ⟨a, ws, rfl, hq, hs⟩ := dt_tup he
    obtain ⟨x0, x1, x2, x3, rfl, h0, h1, h2, h3⟩ := dts4 hs
    have := dt_str h0; subst this
    have := dt_str h1; subst this
    have := dt_str h2; subst this
    walk_at "rd"
    walk_at "itk"
    refine ts_ret (te_mth ?_)
    walk_at "rd"
    refine mthq ob (lk_meth n pp dl ul s.lim).2.2.2.2.2.1 ?_
    walk_at "rd"
    exact ⟨F, dk, s, z, k, x3, d, rfl, h3, P⟩
  | drop z =>
    obtain ⟨a, ws, rfl, hq, hs⟩ := dt_tup he
    obtain ⟨x0, x1, rfl, h0, h1⟩ := dts2 hs
    have := dt_str h0; subst this
    have := dt_str h1; subst this
    walk_at "rd"
    walk_at "itk"
    walk_at "rd"
    walk_at "itk"
    refine ts_ret (te_mth ?_)
    walk_at "rd"
    refine mthq ob (lk_meth n pp dl ul s.lim).2.2.2.2.2.2.1 ?_
    walk_at "rd"
    exact ⟨F, dk, s, z, rfl, P⟩
  | ren o n' =>
    obtain ⟨a, ws, rfl, hq, hs⟩ := dt_tup he
    obtain ⟨x0, x1, x2, rfl, h0, h1, h2⟩ := dts3 hs
    have := dt_str h0; subst this
    have := dt_str h1; subst this
    have := dt_str h2; subst this
    walk_at "rd"
    walk_at "itk"
    walk_at "rd"
    walk_at "itk"
    walk_at "nx"
    refine ts_ret (te_mth ?_)
    walk_at "rd"
    refine mthq ob (lk_meth n pp dl ul s.lim).2.2.2.2.2.2.2.1 ?_
    walk_at "rd"
    exact ⟨F, dk, s, o, n', rfl, P⟩
/-! Deeds; what _law_told tells. -/
inductive Dd where
  | ed (e : Ed)
  | run (es : List Ed)
  | undo
  | redo
  | keep (i : Int)
abbrev sDone : Str := PySem.Str.ofString "done"
abbrev sFail : Str := PySem.Str.ofString "failed"
abbrev sRefu : Str := PySem.Str.ofString "refused"
def doneD : PyData := .tuple [.str sDone, .bool true]
def refD (a b c : Bool) : PyData := .tuple [.str sRefu, .tuple [.bool a, .bool b, .bool c]]
def failD (i : Nat) : PyData := .tuple [.str sFail, .int (i : Int)]
def doM (ed : PM → Ed → PM) (s : MS) : Dd → MS × PyData
  | .ed e => if rsE s.m e = .ok then (takeM s (ed s.m e), doneD) else (s, refD false false (decide (rsE s.m e = .kind)))
  | .run es => match runX ed s.m es 0 with
    | .inr m' => (if es = [] then s else takeM s m', doneD)
    | .inl i => (s, failD i)
  | .undo => match s.dn.getLast? with
    | none => (s, refD false true false)
    | some x => (⟨x, s.dn.dropLast, s.un ++ [s.m], s.lim⟩, doneD)
  | .redo => match s.un.getLast? with
    | none => (s, refD false true false)
    | some x => (⟨x, lastN s.lim.toNat (s.dn ++ [s.m]), s.un.dropLast, s.lim⟩, doneD)
  | .keep i => if 1 ≤ i ∧ i ≤ 100 then (⟨s.m, lastN i.toNat s.dn, s.un, i⟩, doneD) else (s, refD false false true)
/-- a deed at a place -/
def DeedAt (K : PySem.W.Frag) (H : Hp) (v : V) : Dd → Prop
  | .ed e => Dt K H v e.dat
  | .run es => ∃ a l evs, v = .ref a ∧ SqT K H a [.str (PySem.Str.ofString "run"), .ref l] ∧ H l = some (.lst evs) ∧ Dts K H evs (es.map Ed.dat)
  | .undo => ∃ a, v = .ref a ∧ SqT K H a [.str (PySem.Str.ofString "undo")]
  | .redo => ∃ a, v = .ref a ∧ SqT K H a [.str (PySem.Str.ofString "redo")]
  | .keep i => ∃ a, v = .ref a ∧ SqT K H a [.str (PySem.Str.ofString "keep"), .int i]
def DdP (pool : List Str) : Dd → Prop
  | .ed e => EdP pool e
  | .run es => (es.length ≤ 4 ∨ es.length = 9) ∧ ∀ e ∈ es, EdP pool e
  | .undo => True
  | .redo => True
  | .keep _ => True
theorem last_none {α : Type} {xs : List α} (h : xs.getLast? = none) : xs = [] := by simpa using h
theorem last_some {α : Type} {xs : List α} {x : α} (h : xs.getLast? = some x) : xs = xs.dropLast ++ [x] := by
  rcases snoc_of xs with rfl | ⟨ys, y, rfl⟩
  · simp at h
  · simp at h ⊢
    exact h
/-! ### the suite -/
theorem XdOk.mono {d : Option Addr} {H H' : Hp} (h : XdOk d H) (c : Ch [] H H') : XdOk d H' := by
  rcases h with h | ⟨dd, fs, e, h⟩
  · exact .inl h
  · exact .inr ⟨dd, fs, e, c.at0 h⟩
theorem isx {K : PySem.W.Frag} {a C : Addr} {cls : Value} {d : Option Addr} {D : Addr} {b : Bool} {H : Hp} {Q : VK} (hc : cls = .ref D) (hC : ExcC K D) (hx : XdOk d H) (hk : PySem.W.kitOne K (.ref D) (.ref C) = some b) (k : Q (.bl b) H) : rIsX K a cls d [.ref a, .ref C] H Q :=
  ⟨D, .ref C, .ref C, b, hc, hC, hx, rfl, fun u r => r, hk, k⟩
section
variable {K : PySem.W.Frag} {a : Addr} {cls : Value} {d : Option Addr} {f1 f2 f3 : Bool} {n : L2.St → Hp → Prop} {rt : VK} {bk ct : L2.St → Hp → Prop} {s0 s1 s2 s4 : Option V} {H : Hp}
theorem told_head (hE : ErrK K cls f1 f2 f3) (hx : XdOk d H) (k : ∀ (p q : Addr) (H' : Hp), Ch [] H H' → H' p = some (.tup [.bl f1, .bl f2, .bl f3]) → (if PyData.eqv (.tuple [.bool f1, .bool f2, .bool f3]) (.tuple [.bool true, .bool false, .bool false]) = true then
      (tRet (tTup (tCons (tC (.str (PySem.Str.ofString "failed"))) (tCons (tXf a cls d (He.ga K "EditFailed") "index" (tVar 3)) tNil)))) ⟨(tRet (tTup (tCons (tC (.str (PySem.Str.ofString "refused"))) (tCons (tVar 4) tNil)))) ⟨n, rt, bk, ct⟩, rt, bk, ct⟩ [s0, s1, s2, some (.ref a), some (.ref p)] H'
      else (tRet (tTup (tCons (tC (.str (PySem.Str.ofString "refused"))) (tCons (tVar 4) tNil)))) ⟨n, rt, bk, ct⟩ [s0, s1, s2, some (.ref a), some (.ref p)] H')) :
    tsTold K a cls d ⟨n, rt, bk, ct⟩ [s0, s1, s2, some (.ref a), s4] H := by
  obtain ⟨D, hc, hC, _, _, k1, k2, k3⟩ := hE.ex
  unfold tsTold isX
  walk_at "rd"
  refine isx hc hC hx k1 ?_
  walk_at "rd"
  refine isx hc hC hx k2 ?_
  walk_at "rd"
  refine isx hc hC hx k3 ?_
  walk_at "rd"
  rename_i p H1 n1 c1 e1 q H2 n2 c2 e2
  refine r_eqD (d := .tuple [.bool f1, .bool f2, .bool f3]) (e := .tuple [.bool true, .bool false, .bool false]) (Dt.tup (SqT.of (c2.at0 e1)) (.cons (.bl _) (.cons (.bl _) (.cons (.bl _) .nil)))) (Dt.tup (SqT.of e2) (.cons (.bl _) (.cons (.bl _) (.cons (.bl _) .nil)))) ?_ ?_ ?_
  · cases f1 <;> cases f2 <;> cases f3 <;> decide +kernel
  · decide +kernel
  walk_at "rd"
  have z := k p q H2 (c1.trans c2) (c2.at0 e1)
  cases e : PyData.eqv (.tuple [.bool f1, .bool f2, .bool f3]) (.tuple [.bool true, .bool false, .bool false]) with
  | true =>
    rw [e] at z
    exact itT (by rfl) z
  | false =>
    rw [e] at z
    refine itF (by rfl) ?_
    walk_at "nx"
    exact z
theorem told_ref (hE : ErrK K cls false f2 f3) (hx : XdOk d H) (k : ∀ v H', Dt K H' v (refD false f2 f3) → Ch [] H H' → rt v H') : tsTold K a cls d ⟨n, rt, bk, ct⟩ [s0, s1, s2, some (.ref a), s4] H := by
  refine told_head hE hx fun p q H' c e => ?_
  have e0 : PyData.eqv (.tuple [.bool false, .bool f2, .bool f3]) (.tuple [.bool true, .bool false, .bool false]) = false := by cases f2 <;> cases f3 <;> decide +kernel
  rw [e0, if_neg Bool.false_ne_true]
  walk_at "rd"
  rename_i r H3 n3 c3 e3
  exact k (.ref r) H3 (.tup (SqT.of e3) (.cons (.str _) (.cons (.tup (SqT.of (c3.at0 e)) (.cons (.bl _) (.cons (.bl _) (.cons (.bl _) .nil)))) .nil))) (c.trans c3)
theorem told_fail {dd : Addr} {i : Nat} (hE : ErrK K (.ref (He.ga K "EditFailed")) true false false) (hd : H dd = some (.xd [("index", .int (i : Int))])) (k : ∀ v H', Dt K H' v (failD i) → Ch [] H H' → rt v H') :
    tsTold K a (.ref (He.ga K "EditFailed")) (some dd) ⟨n, rt, bk, ct⟩ [s0, s1, s2, some (.ref a), s4] H := by
  refine told_head hE (.inr ⟨dd, _, rfl, hd⟩) fun p q H' c e => ?_
  have e0 : PyData.eqv (.tuple [.bool true, .bool false, .bool false]) (.tuple [.bool true, .bool false, .bool false]) = true := by decide +kernel
  rw [e0, if_pos rfl]
  walk_at "rd"
  refine ⟨.ref a, rfl, rfl, rfl, dd, _, .int (i : Int), rfl, c.at0 hd, rfl, ?_⟩
  walk_at "rd"
  rename_i r H3 n3 c3 e3
  exact k (.ref r) H3 (.tup (SqT.of e3) (.cons (.str _) (.cons (.int _) .nil))) (c.trans c3)
end
/-! _law_told, walked. -/
def spTold (K : PySem.W.Frag) : Sp := fun vs H Q _ => ∃ F dk s v δ pool, vs = [.ref dk, v] ∧ DkM K H F dk s ∧ DeedAt K H v δ ∧ DdP pool δ ∧ GP pool s.m ∧ s.dn.length + s.un.length ≤ 100 ∧
  ∀ u H' F', DkM K H' F' dk (doM edM s δ).1 → Adv H F H' F' → Dt K H' u (doM edM s δ).2 → Q u H'
theorem r_ix0 {K : PySem.W.Frag} {p : Addr} {v : V} {ws : List V} {H : Hp} {Q : VK} (h : SqT K H p (v :: ws)) (k : Q v H) : rIx K (.ref p) (.int 0) H Q := r_ixT (i := ((0 : Nat) : Int)) h (atI_nat (show (v :: ws)[0]? = some v from rfl)) k
theorem r_isNo {x : V} {H : Hp} {Q : VK} (k : Q (.bl (decide (x = .non))) H) : rIsNo x .non H Q := ⟨rfl, k⟩
section
variable {K : PySem.W.Frag} {n : L2.St → Hp → Prop} {rt : VK} {bk ct : L2.St → Hp → Prop} {s0 s1 s2 s3 s4 : Option V} {H : Hp}
/-- caught: refused -/
theorem catch_ref {cls : Value} {d : Option Addr} {f2 f3 : Bool} (hE : ErrK K cls false f2 f3) (hx : XdOk d H) (k : ∀ v H', Dt K H' v (refD false f2 f3) → Ch [] H H' → rt v H') :
    wAs K (.ref (He.ga K "ChoosersError")) 3 (tsTold K) (fun _ _ _ _ => False) ⟨n, rt, bk, ct⟩ cls d [s0, s1, s2, s3, s4] H := by
  obtain ⟨D, rfl, _, _, h, _⟩ := hE.ex
  exact ⟨true, h, fun _ a _ => told_ref hE hx k, fun z => by cases z⟩
/-- caught: failed -/
theorem catch_fail {dd : Addr} {i : Nat} (hE : ErrK K (.ref (He.ga K "EditFailed")) true false false) (hd : H dd = some (.xd [("index", .int (i : Int))])) (k : ∀ v H', Dt K H' v (failD i) → Ch [] H H' → rt v H') :
    wAs K (.ref (He.ga K "ChoosersError")) 3 (tsTold K) (fun _ _ _ _ => False) ⟨n, rt, bk, ct⟩ (.ref (He.ga K "EditFailed")) (some dd) [s0, s1, s2, s3, s4] H := by
  obtain ⟨D, e, _, _, h, _⟩ := hE.ex
  rw [← e] at h
  exact ⟨true, h, fun _ a _ => told_fail hE hd k, fun z => by cases z⟩
theorem told_done {Q : VK} {H : Hp} {s0 s1 s3 s4 : Option V} (k : ∀ v H', Dt K H' v doneD → Ch [] H H' → Q v H') : tRet (tTup (tCons (tC (.str (PySem.Str.ofString "done"))) (tCons (tOp rIsNo (tVar 2) (tC .non)) tNil))) ⟨n, Q, bk, ct⟩ [s0, s1, some .non, s3, s4] H := by
  walk_at "rd"
  refine r_isNo ?_
  walk_at "rd"
  rename_i p H2 n2 c2 e2
  exact k (.ref p) H2 (.tup (SqT.of e2) (.cons (.str _) (.cons (.bl true) .nil))) c2
end
theorem DkM.lens {K : PySem.W.Frag} {H : Hp} {F : List Addr} {dk : Addr} {s : MS} (h : DkM K H F dk s) : 1 ≤ s.lim ∧ s.lim ≤ 100 := by
  obtain ⟨n, pp, dl, ul, dna, una, _, D, _⟩ := h
  exact ⟨D.l1, D.l2⟩
theorem pure_told {K : PySem.W.Frag} {mg : Str → Option Value} (T : TT K mg) (vs : List V) (H : Hp) (Q : VK) (E : XK) (h : spTold K vs H Q E) :
    t__law_told K (spRunT K) (spUndoM K) (spRedoM K) (spLimM K) (spEditT K) { nx := fun _ H' => Q .non H', rt := Q } (L2.start N__law_told vs) H := by
  obtain ⟨F, dk, s, v, δ, pool, rfl, D, hδ, hp, gp, hl, k⟩ := h
  have D' := D
  obtain ⟨n, pp, dl, ul, dna, una, eF, ⟨⟨dx, ob⟩, _⟩, _⟩ := D'
  unfold t__law_told
  walk_at "rd"
  refine ts_seq ?_
  show tbTold K (spRunT K) (spUndoM K) (spRedoM K) (spLimM K) (spEditT K) _ _ _ _
  unfold tbTold
  -- a value of the try is None: done
  have fin : ∀ H1 F1, DkM K H1 F1 dk (doM edM s δ).1 → Adv H F H1 F1 → (doM edM s δ).2 = doneD → ∀ s0 s1 s3 s4, tRet (tTup (tCons (tC (.str (PySem.Str.ofString "done"))) (tCons (tOp rIsNo (tVar 2) (tC .non)) tNil))) { nx := fun _ H' => Q .non H', rt := Q } [s0, s1, some .non, s3, s4] H1 :=
    fun H1 F1 D1 a1 e s0 s1 s3 s4 => told_done fun u H2 hu c2 => k u H2 F1 (D1.at0 c2) (a1.trans (Adv.nil c2)) (by rw [e]; exact hu)
  have bad : ∀ H1 u H2 b c, Ch [] H H1 → (doM edM s δ) = (s, refD false b c) → Dt K H2 u (refD false b c) → Ch [] H1 H2 → Q u H2 := fun H1 u H2 b c c1 e hu c2 =>
    k u H2 F (by rw [e]; exact D.at0 (c1.trans c2)) (Adv.nil (c1.trans c2)) (by rw [e]; exact hu)
  cases δ with
  | ed e =>
    have tail : ∀ (Pn : L2.St → Hp → Prop) (bk ct : L2.St → Hp → Prop), (∀ H1 F1, DkM K H1 F1 dk (doM edM s (.ed e)).1 → Adv H F H1 F1 → (doM edM s (.ed e)).2 = doneD → Pn [some (.ref dk), some v, some .non, none, none] H1) →
        tAsg (tCallR (spEditT K) (WE (wAs K (.ref (He.ga K "ChoosersError")) 3 (tsTold K) (fun _ _ _ _ => False) ⟨Pn, Q, bk, ct⟩)) (tCons (tVar 0) (tCons (tVar 1) tNil))) (gName 2) ⟨Pn, Q, bk, ct⟩ [some (.ref dk), some v, some .non, none, none] H := by
      intro Pn bk ct hP
      walk_at "rd"
      refine ⟨F, dk, s, v, e, rfl, hδ, D, gp.ok hp, gp.gm, Nat.le_trans gp.len (by decide), fun ok F' H' D2 a2 => ?_, fun cls dd H' hx c xd => ?_⟩
      · walk_at "rd"
        have e1 : doM edM s (.ed e) = (takeM s (edM s.m e), doneD) := if_pos ok
        exact hP H' F' (by rw [e1]; exact D2) a2 (by rw [e1])
      · have nok : ¬ rsE s.m e = .ok := fun z => by rw [z] at hx; exact hx.elim
        have e1 : doM edM s (.ed e) = (s, refD false false (decide (rsE s.m e = .kind))) := if_neg nok
        exact catch_ref (err_of T hx) xd fun u H2 hu c2 => bad H' u H2 _ _ c e1 hu c2
    have hδ' : Dt K H v e.dat := hδ
    have go : ∃ a x ws, v = .ref a ∧ SqT K H a (.str x :: ws) ∧ (decide (x = PySem.Str.ofString "run") = false ∧ decide (x = PySem.Str.ofString "undo") = false ∧ decide (x = PySem.Str.ofString "redo") = false ∧ decide (x = PySem.Str.ofString "keep") = false) := by
      cases e with
      | put z k' d =>
        obtain ⟨a, ws, rfl, hq, hs⟩ := dt_tup hδ'
        obtain ⟨x0, x1, x2, x3, rfl, h0, _⟩ := dts4 hs
        have := dt_str h0; subst this
        exact ⟨a, _, _, rfl, hq, by decide +kernel⟩
      | drop z =>
        obtain ⟨a, ws, rfl, hq, hs⟩ := dt_tup hδ'
        obtain ⟨x0, x1, rfl, h0, _⟩ := dts2 hs
        have := dt_str h0; subst this
        exact ⟨a, _, _, rfl, hq, by decide +kernel⟩
      | ren o n' =>
        obtain ⟨a, ws, rfl, hq, hs⟩ := dt_tup hδ'
        obtain ⟨x0, x1, x2, rfl, h0, _⟩ := dts3 hs
        have := dt_str h0; subst this
        exact ⟨a, _, _, rfl, hq, by decide +kernel⟩
    obtain ⟨a, x, ws, rfl, hq, q1, q2, q3, q4⟩ := go
    walk_at "rd"
    refine r_ix0 hq ?_
    walk_at "rd"
    refine itF q1 ?_
    walk_at "rd"
    refine r_ix0 hq ?_
    walk_at "rd"
    refine itF q2 ?_
    walk_at "rd"
    refine r_ix0 hq ?_
    walk_at "rd"
    refine itF q3 ?_
    walk_at "rd"
    refine r_ix0 hq ?_
    walk_at "rd"
    refine itF q4 ?_
    exact tail _ _ _ fun H1 F1 D1 a1 e1 => fin H1 F1 D1 a1 e1 _ _ _ _
  | run es =>
    obtain ⟨a, l, evs, rfl, hq, hle, hd⟩ := hδ
    walk_at "rd"
    refine itT (by rfl) ?_
    walk_at "rd"
    refine ⟨F, dk, s, l, evs, es, pool, rfl, SqL.of hle, hd, hp.1, D, gp, hp.2, fun m' e F' H' D2 a2 => ?_, fun i e dd H' c h => ?_⟩
    · refine tg_name ?_
      walk_at "nx"
      have e1 : doM edM s (.run es) = (if es = [] then s else takeM s m', doneD) := by simp only [doM, e]
      exact fin H' F' (by rw [e1]; exact D2) a2 (by rw [e1]) _ _ _ _
    · have e1 : doM edM s (.run es) = (s, failD i) := by simp only [doM, e]
      exact catch_fail (err_EditFailed T) h fun u H2 hu c2 => k u H2 F (by rw [e1]; exact D.at0 (c.trans c2)) (Adv.nil (c.trans c2)) (by rw [e1]; exact hu)
  | undo =>
    obtain ⟨a, rfl, hq⟩ := hδ
    walk_at "rd"
    refine itF (by rfl) ?_
    walk_at "rd"
    refine itT (by rfl) ?_
    refine ts_asg (te_mth ?_)
    walk_at "rd"
    refine mthq ob (lk_meth n pp dl ul s.lim).2.2.2.2.2.2.2.2.2.1 ?_
    walk_at "rd"
    refine ⟨F, dk, s, rfl, D, fun z => ?_, fun e => ?_, fun dn0 x e F' H' D2 a2 => ?_⟩
    · have : 0 < s.dn.length := List.length_pos_iff.mpr z
      omega
    · have e1 : doM edM s .undo = (s, refD false true false) := by simp [doM, e]
      exact catch_ref (err_NoStep T) (.inl rfl) fun u H2 hu c2 => bad H u H2 _ _ Ch.refl e1 hu c2
    · refine tg_name ?_
      walk_at "nx"
      have e1 : doM edM s .undo = (⟨x, dn0, s.un ++ [s.m], s.lim⟩, doneD) := by simp [doM, e]
      exact fin H' F' (by rw [e1]; exact D2) a2 (by rw [e1]) _ _ _ _
  | redo =>
    obtain ⟨a, rfl, hq⟩ := hδ
    walk_at "rd"
    refine itF (by rfl) ?_
    walk_at "rd"
    refine itF (by rfl) ?_
    walk_at "rd"
    refine itT (by rfl) ?_
    refine ts_asg (te_mth ?_)
    walk_at "rd"
    refine mthq ob (lk_meth n pp dl ul s.lim).2.2.2.2.2.2.2.2.2.2 ?_
    walk_at "rd"
    refine ⟨F, dk, s, rfl, D, fun e => ?_, fun un0 x e F' H' D2 a2 => ?_⟩
    · have e1 : doM edM s .redo = (s, refD false true false) := by simp [doM, e]
      exact catch_ref (err_NoStep T) (.inl rfl) fun u H2 hu c2 => bad H u H2 _ _ Ch.refl e1 hu c2
    · refine tg_name ?_
      walk_at "nx"
      have e1 : doM edM s .redo = (⟨x, lastN s.lim.toNat (s.dn ++ [s.m]), un0, s.lim⟩, doneD) := by simp [doM, e]
      exact fin H' F' (by rw [e1]; exact D2) a2 (by rw [e1]) _ _ _ _
  | keep i =>
    obtain ⟨a, rfl, hq⟩ := hδ
    walk_at "rd"
    refine itF (by rfl) ?_
    walk_at "rd"
    refine itF (by rfl) ?_
    walk_at "rd"
    refine itF (by rfl) ?_
    walk_at "rd"
    refine itT (by rfl) ?_
    refine ts_asg (te_mth ?_)
    walk_at "rd"
    refine mthq ob (lk_meth n pp dl ul s.lim).2.2.1 ?_
    walk_at "rd"
    refine ⟨F, dk, s, i, rfl, D, fun e => ?_, fun i1 i2 F' H' D2 a2 => ?_⟩
    · have e1 : doM edM s (.keep i) = (s, refD false false true) := if_neg e
      exact catch_ref (err_OutOfRange T) (.inl rfl) fun u H2 hu c2 => bad H u H2 _ _ Ch.refl e1 hu c2
    · refine tg_name ?_
      walk_at "nx"
      have e1 : doM edM s (.keep i) = (⟨s.m, lastN i.toNat s.dn, s.un, i⟩, doneD) := if_pos ⟨i1, i2⟩
      exact fin H' F' (by rw [e1]; exact D2) a2 (by rw [e1]) _ _ _ _
end K9
namespace K9
open PySem PySem.Spec PyProof.Rows L2
/-! ### words of tactics -/
local macro_rules | `(tactic| walk_at "hp") => `(tactic| (first
  | assumption | exact upd_same
  | (refine Ch.at0 (H := ?hpH) ?hpc ?hph; (case hpc => assumption); (case hph => walk_at "hp"))
  | (refine Ch.tup (M := ?hpM) (H := ?hpH) ?hpc ?hph; (case hpc => assumption); (case hph => walk_at "hp"))
  | (refine Ch.at (M := ?hpM) (H := ?hpH) ?hpc ?hph ?hpn; (case hpc => assumption); (case hph => walk_at "hp"); (case hpn => walk_at "ni"))
  | fail "hp"))
local macro_rules | `(tactic| walk_at "ni") => `(tactic| (first | exact ni0 | assumption | (refine ni1 ?nia ?nib; (case nia => walk_at "nq"); (case nib => walk_at "ni")) | fail "ni"))
local macro_rules | `(tactic| walk_at "nq") => `(tactic| (first | assumption | exact Ne.symm (by assumption) | (refine ne_of_none (H := ?nqH) (o := ?nqo) ?nqa ?nqb; (case nqb => assumption); (case nqa => walk_at "hp")) | (refine Ne.symm (ne_of_none (H := ?nqH) (o := ?nqo) ?nqa ?nqb); (case nqb => assumption); (case nqa => walk_at "hp")) | fail "nq"))
local macro_rules | `(tactic| walk_at "sq") => `(tactic| (first
  | assumption | exact SqL.of (by assumption)
  | (refine Ch.sql (M := ?sqM) (H := ?sqH) ?sqc ?sqh ?sqn; (case sqc => assumption); (case sqh => walk_at "sq"); (case sqn => walk_at "ni"))
  | fail "sq"))
local macro_rules | `(tactic| walk_at "tq") => `(tactic| (first
  | assumption | exact SqT.of (by assumption)
  | (refine Ch.sqt (M := ?tqM) (H := ?tqH) ?tqc ?tqh; (case tqc => assumption); (case tqh => walk_at "tq"))
  | fail "tq"))
local macro_rules | `(tactic| walk_at "rd1") => `(tactic| (first
  | ((with_reducible refine te_var (v := ?rdw) ?rdv ?_); (case rdv => exact rfl))
  | (with_reducible (first
  | refine te_c ?_ | refine te_op ?_ | refine te_nil ?_ | refine te_cons ?_ | refine te_cb ?_ | refine te_callR ?_ | refine te_tup ?_ | refine te_lst ?_
  | refine ts_seq ?_ | refine ts_asg ?_ | refine tg_name ?_ | refine ts_ret ?_ | refine ts_retN ?_ | refine ts_if ?_ | refine ts_drop ?_ | refine ts_next ?_ | refine tg_sub ?_
  | refine nd_nx ?_ | refine nd_rt ?_ | refine nd_bk ?_ | refine nd_ct ?_
  | refine tt_test ?_ | refine tt_b ?_ | refine tt_and ?_ | refine tt_or ?_ | refine tt_not ?_ | refine blq ?_ | refine inq ?_ | refine iteT ?_ | refine iteF ?_
  | refine te_then ?_ | refine te_if ?_ | refine te_sl ?_ | refine te_part ?_ | refine te_chain ?_ | refine te_andV ?_ | refine te_orV ?_ | refine te_notV ?_ | refine te_un ?_
  | refine te_din ?_ | refine te_dni ?_ | refine te_dgt ?_ | refine ts_dpt ?_ | refine ts_for ?_ | refine ti_rng ?_ | refine ti_rng2 ?_ | refine ti_lst ?_ | refine ti_tup ?_ | refine ti_str ?_ | refine ti_key ?_ | refine strq ?_ | refine te_lc ?_ | refine te_dc ?_ | refine tt_yes ?_
  | refine r_addI ?_ | refine r_I0 ?_ | refine r_eqI ?_ | refine r_eqS ?_ | refine r_neI ?_ | refine r_neS ?_ | refine r_U ?_ | refine r_intI ?_ | refine r_intB ?_))
  | ((with_reducible refine r_ixL (xs := ?rdx) (v := ?rdw) ?rdh ?rde ?_); (case rdh => walk_at "sq"); (case rde => exact rfl))
  | ((with_reducible refine r_ixT (xs := ?rdx) (v := ?rdw) ?rdh ?rde ?_); (case rdh => walk_at "tq"); (case rde => exact rfl))
  | ((with_reducible refine r_lenL (xs := ?rdx) ?rdh ?_); (case rdh => walk_at "sq"))
  | ((with_reducible refine r_lenT (xs := ?rdx) ?rdh ?_); (case rdh => walk_at "tq"))
  | ((with_reducible refine r_lenD (kvs := ?rdx) ?rdh ?_); (case rdh => walk_at "hp"))
  | ((with_reducible refine r_set' (xs := ?rdx) (j := ?rdj) ?rdh ?rde ?_); (case rdh => walk_at "hp"); (case rde => exact rfl); (intro rH rc rh))
  | ((with_reducible refine newT ?rdc ?_); (case rdc => (simp; done)); (intro rp rH rn rc rh))
  | ((with_reducible refine newL ?rdc ?_); (case rdc => (simp; done)); (intro rp rH rn rc rh))
  | ((with_reducible refine te_dnw ?_); (intro rp rH rn rc rh))
  | ((with_reducible refine lisq (xs := ?rdx) ?rdh ?_); (case rdh => walk_at "sq"))
  | ((with_reducible refine tupq (xs := ?rdx) ?rdh ?_); (case rdh => walk_at "tq"))
  | ((with_reducible refine rngq ?rdc ?_); (case rdc => walk_at "sd"))
  | ((with_reducible refine r_I ?rdc ?_); (case rdc => walk_at "sd"))
  | ((with_reducible refine r_mulI ?rdc ?_); (case rdc => omega))
  | fail "rd"))
local macro_rules | `(tactic| walk_at "sd") => `(tactic| (first | (constructor <;> omega) | omega | decide | (refine ⟨?_, ?_, ?_⟩ <;> decide)))
local macro_rules | `(tactic| walk_at "rd") => `(tactic| repeat (walk_at "rd1"))
local macro_rules | `(tactic| walk_at "ch") => `(tactic| (first
  | assumption | exact Ch.refl | exact Ch.nil (by assumption)
  | (refine Ch.trans (H1 := ?chm) ?cha ?chb; (case chb => (first | assumption | exact Ch.nil (by assumption) | (refine Ch.mono (M := ?chl) ?chx ?chy; (case chx => assumption); (case chy => (intro _ chz; simp at chz ⊢; simp [chz]))))); (case cha => walk_at "ch"))
  | fail "ch"))
local macro_rules | `(tactic| walk_at "nx") => `(tactic| repeat (with_reducible (first | refine ts_next ?_ | refine nd_nx ?_)))
local macro_rules | `(tactic| walk_at "dm") => `(tactic| (first | assumption | (refine Dt.mono (M := ?dmM) (H := ?dmH) ?dmc ?dmh; (case dmc => assumption); (case dmh => walk_at "dm")) | fail "dm"))
local macro_rules | `(tactic| walk_at "dt") => `(tactic| (first | exact Dt.int _ | exact Dt.str _ | exact Dt.bl _ | exact Dt.non | walk_at "dm" | (refine Dt.tup (xs := ?dtx) ?dta ?dtb; (case dta => walk_at "tq"); (case dtb => walk_at "dts")) | fail "dt"))
local macro_rules | `(tactic| walk_at "dsm") => `(tactic| (first | assumption | (refine Dts.mono (M := ?dmM) (H := ?dmH) ?dmc ?dmh; (case dmc => assumption); (case dmh => walk_at "dsm")) | fail "dsm"))
local macro_rules | `(tactic| walk_at "dts") => `(tactic| (first | exact Dts.nil | walk_at "dsm" | (refine Dts.cons ?dtsa ?dtsb; (case dtsa => walk_at "dt"); (case dtsb => walk_at "dts")) | fail "dts"))
local macro_rules | `(tactic| walk_at "it") => `(tactic| (first | refine itT (by rfl) ?_ | refine itF (by rfl) ?_ | fail "it"))
local macro_rules | `(tactic| walk_at "if") => `(tactic| with_reducible (first | refine iteF ?_ | refine iteT ?_))
local macro_rules | `(tactic| walk_at "itk") => `(tactic| (first | (refine itT ?itk ?_; (case itk => decide +kernel)) | (refine itF ?itk ?_; (case itk => decide +kernel)) | fail "itk"))
/-! _law_reason. -/
def rsS : Rs → Str
  | .ok => PySem.Str.ofString ""
  | .name => PySem.Str.ofString "name"
  | .kind => PySem.Str.ofString "kind"
  | .term => PySem.Str.ofString "term"
  | .unknown => PySem.Str.ofString "unknown"
  | .new => PySem.Str.ofString "new"
theorem rsS_ok (r : Rs) : decide (rsS r = PySem.Str.ofString "") = decide (r = .ok) := by cases r <;> decide +kernel
theorem rsS_kind (r : Rs) : decide (rsS r = PySem.Str.ofString "kind") = decide (r = .kind) := by cases r <;> decide +kernel
theorem inV_two (k a b : Str) : inV (.str k) [.str a, .str b] = (decide (k = a) || decide (k = b)) := by
  have e : ∀ a b : Str, (a == b) = decide (b = a) := fun a b => by
    by_cases h : b = a
    · subst h; simp
    · have h2 : ¬ a = b := fun z => h z.symm
      simp [h, h2]
  simp only [inV, List.any_cons, List.any_nil, eqV, Bool.or_false, e]
theorem r_in2 {K : PySem.W.Frag} {k a b : Str} {l : Addr} {H : Hp} {Q : VK} (h : SqL K H l [.str a, .str b]) (q : Q (.bl (decide (k = a) || decide (k = b))) H) : rInG K (.str k) (.ref l) H Q :=
  .inl ⟨_, _, rfl, .inl h, rfl, rfl, by
    show Q (.bl (inV (.str k) [.str a, .str b])) H
    rw [inV_two]
    exact q⟩
theorem r_ni2 {K : PySem.W.Frag} {k a b : Str} {l : Addr} {H : Hp} {Q : VK} (h : SqL K H l [.str a, .str b]) (q : Q (.bl (!(decide (k = a) || decide (k = b)))) H) : rNotInG K (.str k) (.ref l) H Q :=
  .inl ⟨_, _, rfl, .inl h, rfl, rfl, by
    show Q (.bl (!inV (.str k) [.str a, .str b])) H
    rw [inV_two]
    exact q⟩
def spReason (K : PySem.W.Frag) : Sp := fun vs H Q _ => ∃ p m ev e pool, vs = [.ref p, ev] ∧ PapAt K H p m ∧ Dt K H ev (Ed.dat e) ∧ GP pool m ∧ EdP pool e ∧ ∀ H', Ch [] H H' → Q (.str (rsS (rsE m e))) H'
theorem bad_pl : plD badD = true ∧ wOk badD 30 = false := by decide +kernel
theorem pure_reason {K : PySem.W.Frag} (vs : List V) (H : Hp) (Q : VK) (E : XK) (h : spReason K vs H Q E) : t__law_reason K { nx := fun _ H' => Q .non H', rt := Q } (L2.start N__law_reason vs) H := by
  obtain ⟨p, m, ev, e, pool, rfl, ⟨⟨l, hp, he⟩, nd⟩, hd, gp, pe, k⟩ := h
  unfold t__law_reason
  cases e with
  | put z kd d =>
    obtain ⟨a, ws, rfl, hq, hs⟩ := dt_tup hd
    obtain ⟨x0, x1, x2, x3, rfl, h0, h1, h2, h3⟩ := dts4 hs
    have := dt_str h0; subst this
    have := dt_str h1; subst this
    have := dt_str h2; subst this
    obtain ⟨okt, pz, pk, pd⟩ := pe
    have rs : rsE m (.put z kd d) = if isWord z = false then .name else if isKind kd = false then .kind else if wOk d 30 = false then .term else .ok := rfl
    have hw : (decide (z = PySem.Str.ofString "") || decide (z = PySem.Str.ofString "a1")) = !isWord z := by
      rcases pz with h | rfl | rfl
      · have w := gp.pw z h
        rw [w]
        have n1 : ¬ z = PySem.Str.ofString "" := fun q => by rw [q, odd_words.1] at w; cases w
        have n2 : ¬ z = PySem.Str.ofString "a1" := fun q => by rw [q, odd_words.2] at w; cases w
        rw [decide_eq_false n1, decide_eq_false n2]; rfl
      · rw [odd_words.1]; decide +kernel
      · rw [odd_words.2]; decide +kernel
    walk_at "rd"
    walk_at "itk"
    walk_at "rd"
    rename_i l1 H1 n1 c1 e1
    refine r_in2 (SqL.of e1) ?_
    rw [hw]
    walk_at "rd"
    cases cw : isWord z with
    | false =>
      refine itT (by rfl) ?_
      walk_at "rd"
      have := k H1 c1
      rw [rs, if_pos cw] at this
      exact this
    | true =>
    refine itF (by rfl) ?_
    walk_at "nx"
    walk_at "rd"
    rename_i l2 H2 n2 c2 e2
    refine r_ni2 (SqL.of e2) ?_
    walk_at "rd"
    cases ck : isKind kd with
    | false =>
      refine itT (by show (!isKind kd) = true; rw [ck] <;> rfl) ?_
      walk_at "rd"
      have := k H2 (c1.trans c2)
      rw [rs, cw, if_neg (by simp), if_pos ck] at this
      exact this
    | true =>
    refine itF (by show (!isKind kd) = false; rw [ck] <;> rfl) ?_
    walk_at "nx"
    walk_at "rd"
    rename_i l3 H3 n3 c3 e3 t4 H4 n4 c4 e4
    have C : Ch [] H H4 := ((c1.trans c2).trans c3).trans c4
    have hb : SeqAt.shaped d = true := pl_shaped okt.pl (Nat.le_trans okt.dp (by decide))
    refine r_eqD (d := d) (e := badD) (h3.mono C) (Dt.tup (SqT.of e4) (.cons (.str _) (.cons (.int _) .nil))) hb (by decide +kernel) ?_
    have rs' : rsE m (.put z kd d) = if wOk d 30 = false then .term else .ok := by rw [rs, cw, ck, if_neg (by simp), if_neg (by simp)]
    have fin := k H4 C
    rw [rs'] at fin
    rcases pd with w | rfl
    · have ne : PyData.eqv d badD = false := by
        cases q : PyData.eqv d badD with
        | false => rfl
        | true =>
          have := (eqv_pl okt.pl bad_pl.1).mp q
          rw [this, bad_pl.2] at w
          cases w
      rw [ne]
      rw [w, if_neg (by simp)] at fin
      walk_at "rd"
      refine r_ixL (SqL.of (c4.at0 e3)) rfl ?_
      exact fin
    · have eq : PyData.eqv badD badD = true := (eqv_pl bad_pl.1 bad_pl.1).mpr rfl
      rw [eq]
      rw [if_pos bad_pl.2] at fin
      walk_at "rd"
      refine r_ixL (SqL.of (c4.at0 e3)) rfl ?_
      exact fin
  | drop z =>
    obtain ⟨a, ws, rfl, hq, hs⟩ := dt_tup hd
    obtain ⟨x0, x1, rfl, h0, h1⟩ := dts2 hs
    have := dt_str h0; subst this
    have := dt_str h1; subst this
    have rs : rsE m (.drop z) = if (mlook m z).isSome then .ok else .unknown := rfl
    walk_at "rd"
    walk_at "itk"
    walk_at "nx"
    walk_at "rd"
    refine dniq (.inl hp) ?_
    walk_at "rd"
    rw [he.isSome]
    have fin := k H Ch.refl
    rw [rs] at fin
    cases c : (mlook m z).isSome with
    | false =>
      rw [c] at fin
      refine itT (by rfl) ?_
      walk_at "rd"
      exact fin
    | true =>
      rw [c] at fin
      refine itF (by rfl) ?_
      walk_at "nx"
      walk_at "rd"
      walk_at "itk"
      walk_at "rd"
      exact fin
  | ren o n =>
    obtain ⟨a, ws, rfl, hq, hs⟩ := dt_tup hd
    obtain ⟨x0, x1, x2, rfl, h0, h1, h2⟩ := dts3 hs
    have := dt_str h0; subst this
    have := dt_str h1; subst this
    have := dt_str h2; subst this
    have rs : rsE m (.ren o n) = if (mlook m o).isSome then (if isWord n = false then .new else if (mlook m n).isSome then .new else .ok) else .unknown := rfl
    have hw : decide (n = PySem.Str.ofString "") = !isWord n := by
      rcases pe.2 with h | rfl
      · have w := gp.pw n h
        rw [w]
        exact decide_eq_false fun q => by rw [q, odd_words.1] at w; cases w
      · rw [odd_words.1]; decide +kernel
    walk_at "rd"
    walk_at "itk"
    walk_at "nx"
    walk_at "rd"
    refine dniq (.inl hp) ?_
    walk_at "rd"
    rw [he.isSome]
    have fin := k H Ch.refl
    rw [rs] at fin
    cases c : (mlook m o).isSome with
    | false =>
      rw [c] at fin
      refine itT (by rfl) ?_
      walk_at "rd"
      exact fin
    | true =>
      rw [c] at fin
      refine itF (by rfl) ?_
      walk_at "nx"
      walk_at "rd"
      walk_at "itk"
      walk_at "rd"
      rw [hw]
      cases cw : isWord n with
      | false =>
        rw [cw] at fin
        refine itT (by rfl) ?_
        walk_at "if"
        walk_at "rd"
        exact fin
      | true =>
        rw [cw] at fin
        refine itF (by rfl) ?_
        walk_at "rd"
        refine dinq (.inl hp) ?_
        walk_at "rd"
        rw [he.isSome]
        cases cn : (mlook m n).isSome with
        | false =>
          rw [cn] at fin
          refine itF (by rfl) ?_
          walk_at "nx"
          walk_at "rd"
          exact fin
        | true =>
          rw [cn] at fin
          refine itT (by rfl) ?_
          walk_at "rd"
          exact fin
/-! _law_edited. -/
theorem r_ix1 {K : PySem.W.Frag} {p : Addr} {u v : V} {ws : List V} {H : Hp} {Q : VK} (h : SqT K H p (u :: v :: ws)) (k : Q v H) : rIx K (.ref p) (.int 1) H Q := r_ixT (i := ((1 : Nat) : Int)) h (atI_nat (show (u :: v :: ws)[1]? = some v from rfl)) k
def keepB (x z : Str) (e : Str × Str × PyData) : Bool := decide (x = sPut) || !decide (e.1 = z)
def tCopy (K : PySem.W.Frag) : TS := tLock (tFor (iKeys (tVar 0)) (gName 3) (tIfS (tOr (tTest (tOp (rEqG K) (tOp (rIx K) (tVar 1) (tC (.int 0))) (tC (.str (PySem.Str.ofString "put"))))) (tTest (tOp (rNeG K) (tVar 3) (tOp (rIx K) (tVar 1) (tC (.int 1)))))) (sDPut (tVar 2) (tVar 3) (tDGet (tVar 0) (tVar 3))) tNext))
theorem copy_loop {K : PySem.W.Frag} {p a pc : Addr} {l : List (Key × V)} {m : PM} {x z : Str} {ws : List V} {n : L2.St → Hp → Prop} {rt : VK} {bk ct : L2.St → Hp → Prop} {v3 v4 v5 : Option V} {H : Hp} (hp : H p = some (.dK l)) (he : PEnts K H l m) (nd : (m.map (·.1)).Nodup) (lm : m.length ≤ 1000) (hc : H pc = some (.dK [])) (pcp : pc ≠ p)
    (hq : SqT K H a (.str x :: .str z :: ws)) (k : ∀ v3 ys H', Ch [pc] H H' → H' pc = some (.dK ys) → PEnts K H' ys (m.filter (keepB x z)) → n [some (.ref p), some (.ref a), some (.ref pc), v3, v4, v5] H') :
    tCopy K ⟨n, rt, bk, ct⟩ [some (.ref p), some (.ref a), some (.ref pc), v3, v4, v5] H := by
  have hlen := he.len
  unfold tCopy
  refine ts_lock hp fun od => ?_
  have cl := Ch.lock (o := od) hp
  have el : (upd H p (.frz od (.dK l))) p = some (.frz od (.dK l)) := upd_same
  generalize hL : upd H p (.frz od (.dK l)) = HL at cl el ⊢
  have eL : HL pc = some (.dK []) := cl.at hc (by simp [pcp])
  have qL : SqT K HL a (.str x :: .str z :: ws) := cl.sqt hq
  walk_at "rd"
  refine keyq el ?_
  walk_at "rd"
  have heL := he.mono cl
  refine forq walks_keys (fun i σ H' => (∃ v3, σ = [some (.ref p), some (.ref a), some (.ref pc), v3, v4, v5]) ∧ Ch [pc] HL H' ∧ ∃ ys, H' pc = some (.dK ys) ∧ PEnts K H' ys ((m.take i).filter (keepB x z))) ?_ (fun i σ H' h => h.2.1.at el (by simp [pcp.symm])) ?_ ?_
  · exact ⟨⟨_, rfl⟩, Ch.refl, [], eL, .nil⟩
  · rintro i kx0 σ H' hi ⟨kx, vx, hkv, rfl⟩ ⟨⟨v3, rfl⟩, c, ys, ey, pe⟩
    obtain ⟨y, k', q, tv, d, ekv, em, hq', hd⟩ := (heL.mono c).get hkv
    cases ekv
    rw [show kV (Sum.inr y : Key) = V.str y from rfl]
    have nb := not_before nd em
    have len : ys.length ≤ 100000 := by
      have l1 := pe.len
      have l2 := List.length_filter_le (keepB x z) (m.take i)
      rw [List.length_take] at l2
      omega
    have put : ∀ (Pn : L2.St → Hp → Prop) (rt : VK) (bk ct : L2.St → Hp → Prop), keepB x z (y, k', d) = true → (∀ H5, Ch [pc] HL H5 → (∃ ys, H5 pc = some (.dK ys) ∧ PEnts K H5 ys ((m.take (i + 1)).filter (keepB x z))) → Pn [some (.ref p), some (.ref a), some (.ref pc), some (.str y), v4, v5] H5) →
        (sDPut (tVar 2) (tVar 3) (tDGet (tVar 0) (tVar 3))) ⟨Pn, rt, bk, ct⟩ [some (.ref p), some (.ref a), some (.ref pc), some (.str y), v4, v5] H' := by
      intro Pn rt bk ct hb hP
      walk_at "rd"
      obtain ⟨q', tv', g1, g2, g3⟩ := (heL.mono c).look_yes (mlook_at nd em)
      refine dgtq (.inr ⟨od, c.at el (by simp [pcp.symm])⟩) g1 ?_
      walk_at "rd"
      refine dptq ey len fun H5 c5 e5 => ?_
      refine hP H5 (c.trans c5) ⟨_, e5, ?_⟩
      have kno : ∀ e ∈ ys, ¬ e.1 = (Sum.inr y : Key) := fun e he q => by
        have : e.1 ∈ ys.map (·.1) := List.mem_map.mpr ⟨e, he, rfl⟩
        rw [pe.keys] at this
        obtain ⟨x', hx, ex⟩ := List.mem_map.mp this
        rw [q] at ex
        exact nb x' (List.mem_filter.mp hx).1 (inr_eq.mp ex)
      rw [putK_app kno, take_snoc em, List.filter_append]
      have : List.filter (keepB x z) [(y, k', d)] = [(y, k', d)] := by rw [List.filter_cons, hb, if_pos rfl]; rfl
      rw [this]
      exact (pe.mono c5).append (.cons (c5.sqt g2) (g3.mono c5) .nil)
    walk_at "rd"
    refine r_ix0 (c.sqt qL) ?_
    walk_at "rd"
    by_cases hx : x = sPut
    · refine itT (decide_eq_true hx) ?_
      walk_at "if"
      exact put _ _ _ _ (by unfold keepB; rw [decide_eq_true hx]; rfl) fun H5 c5 e5 => ⟨⟨_, rfl⟩, c5, e5⟩
    · refine itF (decide_eq_false hx) ?_
      walk_at "rd"
      refine r_ix1 (c.sqt qL) ?_
      walk_at "rd"
      refine itn (fun cne => ?_) (fun ceq => ?_)
      · exact put _ _ _ _ (by unfold keepB; rw [decide_eq_false cne]; simp) fun H5 c5 e5 => ⟨⟨_, rfl⟩, c5, e5⟩
      · walk_at "nx"
        refine ⟨⟨_, rfl⟩, c, ys, ey, ?_⟩
        rw [take_snoc em, List.filter_append]
        have hb : keepB x z (y, k', d) = false := by unfold keepB; rw [decide_eq_false hx, decide_eq_true ceq]; rfl
        have : List.filter (keepB x z) [(y, k', d)] = [] := by rw [List.filter_cons, hb, if_neg Bool.false_ne_true]; rfl
        rw [this, List.append_nil]
        exact pe
  · rintro σ H' ⟨⟨v3, rfl⟩, c, ys, ey, pe⟩
    refine ⟨c.at el (by simp [pcp.symm]), ?_⟩
    subst hL
    have e2 := c.at el (by simp [pcp.symm])
    have cu : Ch [p] H' (upd H' p (.dK l)) := Ch.set Ch.refl (List.mem_singleton.mpr rfl) e2 rfl
    walk_at "nx"
    rw [List.take_of_length_le (by omega)] at pe
    exact k v3 ys _ (Ch.unlock hp c) (by rw [upd_ne pcp]; exact ey) (pe.mono cu)
/-! _law_edited, walked. -/
theorem r_ix2 {K : PySem.W.Frag} {p : Addr} {u u' v : V} {ws : List V} {H : Hp} {Q : VK} (h : SqT K H p (u :: u' :: v :: ws)) (k : Q v H) : rIx K (.ref p) (.int 2) H Q := r_ixT (i := ((2 : Nat) : Int)) h (atI_nat (show (u :: u' :: v :: ws)[2]? = some v from rfl)) k
def tTurn (K : PySem.W.Frag) (sp : Sp) : TS := tLock (tFor (iKeys (tVar 2)) (gName 3) (sDPut (tVar 5) (tVar 3) (tTup (tCons (tOp (rIx K) (tDGet (tVar 2) (tVar 3)) (tC (.int 0))) (tCons (tCallR sp (fun _ => E0) (tCons (tOp (rIx K) (tDGet (tVar 2) (tVar 3)) (tC (.int 1))) (tCons (tVar 4) (tCons (tOp (rIx K) (tVar 1) (tC (.int 2))) tNil)))) tNil)))))
theorem turn_loop {K : PySem.W.Frag} {p a u pt : Addr} {l : List (Key × V)} {m : PM} {k0 o nn : Str} {s0 : Option V} {v0 v1 : V} {n : L2.St → Hp → Prop} {rt : VK} {bk ct : L2.St → Hp → Prop} {v3 : Option V} {H : Hp} (hp : H p = some (.dK l)) (he : PEnts K H l m) (nd : (m.map (·.1)).Nodup) (lm : m.length ≤ 1000) (hc : H pt = some (.dK [])) (pcp : pt ≠ p)
    (hq : SqT K H a [v0, v1, .str nn]) (hu : SqT K H u [.str k0, .str o]) (pk : plD (.str k0) = true) (po : plD (.str o) = true) (pd : ∀ e ∈ m, plD e.2.2 = true ∧ e.2.2.depth ≤ 5)
    (k : ∀ v3 ys H', Ch [pt] H H' → H' pt = some (.dK ys) → PEnts K H' ys (m.map fun e => (e.1, e.2.1, renD k0 o nn e.2.2)) → n [s0, some (.ref a), some (.ref p), v3, some (.ref u), some (.ref pt)] H') :
    tTurn K (spRen K 5) ⟨n, rt, bk, ct⟩ [s0, some (.ref a), some (.ref p), v3, some (.ref u), some (.ref pt)] H := by
  have hlen := he.len
  unfold tTurn
  refine ts_lock hp fun od => ?_
  have cl := Ch.lock (o := od) hp
  have el : (upd H p (.frz od (.dK l))) p = some (.frz od (.dK l)) := upd_same
  generalize hL : upd H p (.frz od (.dK l)) = HL at cl el ⊢
  have eL : HL pt = some (.dK []) := cl.at hc (by simp [pcp])
  have qL := cl.sqt hq
  have uL := cl.sqt hu
  walk_at "rd"
  refine keyq el ?_
  walk_at "rd"
  have heL := he.mono cl
  refine forq walks_keys (fun i σ H' => (∃ v3, σ = [s0, some (.ref a), some (.ref p), v3, some (.ref u), some (.ref pt)]) ∧ Ch [pt] HL H' ∧ ∃ ys, H' pt = some (.dK ys) ∧ PEnts K H' ys ((m.take i).map fun e => (e.1, e.2.1, renD k0 o nn e.2.2))) ?_ (fun i σ H' h => h.2.1.at el (by simp [pcp.symm])) ?_ ?_
  · exact ⟨⟨_, rfl⟩, Ch.refl, [], eL, .nil⟩
  · rintro i kx0 σ H' hi ⟨kx, vx, hkv, rfl⟩ ⟨⟨v3, rfl⟩, c, ys, ey, pe⟩
    obtain ⟨y, k', q, tv, d, ekv, em, hq', hd⟩ := (heL.mono c).get hkv
    cases ekv
    rw [show kV (Sum.inr y : Key) = V.str y from rfl]
    have nb := not_before nd em
    obtain ⟨q', tv', g1, g2, g3⟩ := (heL.mono c).look_yes (mlook_at nd em)
    have gp := pd _ (List.mem_of_getElem? em)
    walk_at "rd"
    refine dgtq (.inr ⟨od, c.at el (by simp [pcp.symm])⟩) g1 ?_
    walk_at "rd"
    refine dgtq (.inr ⟨od, c.at el (by simp [pcp.symm])⟩) g1 ?_
    walk_at "rd"
    try (with_reducible refine r_ix2 (c.sqt qL) ?_)
    walk_at "rd"
    have dd : d.depth ≤ 5 := gp.2
    refine ⟨tv', d, u, k0, o, nn, rfl, g3, c.sqt uL, pk, po, gp.1, dd, by omega, fun v' H3 hv c3 => ?_⟩
    walk_at "rd"
    rename_i qn H4 n4 c4 e4
    refine dptq (c4.at0 (c3.at0 ey)) (by rw [pe.len, List.length_map, List.length_take]; omega) fun H5 c5 e5 => ?_
    refine ⟨⟨_, rfl⟩, c.trans ((c3.trans c4).nil.trans c5), _, e5, ?_⟩
    have kno : ∀ e ∈ ys, ¬ e.1 = (Sum.inr y : Key) := fun e he' q => by
      have : e.1 ∈ ys.map (·.1) := List.mem_map.mpr ⟨e, he', rfl⟩
      rw [pe.keys, List.map_map] at this
      obtain ⟨x, hx, ex⟩ := List.mem_map.mp this
      rw [q] at ex
      exact nb x hx (inr_eq.mp ex)
    rw [putK_app kno, take_snoc em, List.map_append]
    exact (((pe.mono c3).mono c4).mono c5).append (.cons (c5.sqt (SqT.of e4)) ((hv.mono c4).mono c5) .nil)
  · rintro σ H' ⟨⟨v3, rfl⟩, c, ys, ey, pe⟩
    refine ⟨c.at el (by simp [pcp.symm]), ?_⟩
    subst hL
    have e2 := c.at el (by simp [pcp.symm])
    have cu : Ch [p] H' (upd H' p (.dK l)) := Ch.set Ch.refl (List.mem_singleton.mpr rfl) e2 rfl
    walk_at "nx"
    rw [List.take_of_length_le (by omega)] at pe
    exact k v3 ys _ (Ch.unlock hp c) (by rw [upd_ne pcp]; exact ey) (pe.mono cu)
def spEditedW (K : PySem.W.Frag) : Sp := fun vs H Q _ => ∃ p m ev e pool, vs = [.ref p, ev] ∧ PapAt K H p m ∧ Dt K H ev (Ed.dat e) ∧ GP pool m ∧ EdP pool e ∧ rsE m e = .ok ∧ ∀ p' H', H p' = none → PapAt K H' p' (edW m e) → Ch [] H H' → Q (.ref p') H'
theorem filter_put {x z : Str} (h : x = sPut) (m : PM) : m.filter (keepB x z) = m := List.filter_eq_self.mpr fun e _ => by unfold keepB; rw [decide_eq_true h]; rfl
theorem filter_drop {x z : Str} (h : ¬ x = sPut) (m : PM) : m.filter (keepB x z) = dropM m z := by
  unfold dropM
  congr 1
  funext e
  unfold keepB
  rw [decide_eq_false h]; rfl
theorem pure_editedW {K : PySem.W.Frag} (vs : List V) (H : Hp) (Q : VK) (E : XK) (h : spEditedW K vs H Q E) : t__law_edited K (spRen K 5) { nx := fun _ H' => Q .non H', rt := Q } (L2.start N__law_edited vs) H := by
  obtain ⟨p, m, ev, e, pool, rfl, hpap, hd, gp, pe, ok, k⟩ := h
  have hpap' := hpap
  obtain ⟨⟨l, hp, he⟩, nd⟩ := hpap
  have lm : m.length ≤ 1000 := Nat.le_trans gp.len (by decide)
  unfold t__law_edited
  cases e with
  | put z kd d =>
    obtain ⟨a, ws, rfl, hq, hs⟩ := dt_tup hd
    obtain ⟨x0, x1, x2, x3, rfl, h0, h1, h2, h3⟩ := dts4 hs
    have := dt_str h0; subst this
    have := dt_str h1; subst this
    have := dt_str h2; subst this
    walk_at "rd"
    rename_i pc H1 n1 c1 e1
    have pcp : pc ≠ p := fun q => by rw [q, hp] at n1; cases n1
    refine copy_loop (c1.at0 hp) (he.mono c1) nd lm e1 pcp (c1.sqt hq) fun v3 ys H2 c2 e2 p2 => ?_
    rw [filter_put rfl] at p2
    walk_at "rd"
    try (with_reducible refine r_ix0 (c2.sqt (c1.sqt hq)) ?_)
    walk_at "rd"
    walk_at "itk"
    walk_at "rd"
    try (with_reducible refine r_ixT (c2.sqt (c1.sqt hq)) rfl ?_)
    walk_at "rd"
    try (with_reducible refine r_ixT (c2.sqt (c1.sqt hq)) rfl ?_)
    walk_at "rd"
    rename_i q3 H3 n3 c3 e3
    try (with_reducible refine r_ixT (c3.sqt (c2.sqt (c1.sqt hq))) rfl ?_)
    walk_at "rd"
    refine dptq (c3.at0 e2) (by rw [p2.len]; omega) fun H4 c4 e4 => ?_
    walk_at "rd"
    try (with_reducible refine r_ixT (c4.sqt (c3.sqt (c2.sqt (c1.sqt hq)))) rfl ?_)
    walk_at "rd"
    walk_at "itk"
    walk_at "rd"
    have hd3 := ((((h3.mono c1).mono c2).mono c3).mono c4)
    refine k pc H4 n1 ⟨⟨_, e4, ((p2.mono c3).mono c4).put (c4.sqt (SqT.of e3)) hd3⟩, keys_put nd⟩ ?_
    exact Ch.fresh1 (Ch.fresh1 c1 c2 n1 |>.trans c3) c4 n1
  | drop z =>
    obtain ⟨a, ws, rfl, hq, hs⟩ := dt_tup hd
    obtain ⟨x0, x1, rfl, h0, h1⟩ := dts2 hs
    have := dt_str h0; subst this
    have := dt_str h1; subst this
    walk_at "rd"
    rename_i pc H1 n1 c1 e1
    have pcp : pc ≠ p := fun q => by rw [q, hp] at n1; cases n1
    refine copy_loop (c1.at0 hp) (he.mono c1) nd lm e1 pcp (c1.sqt hq) fun v3 ys H2 c2 e2 p2 => ?_
    rw [filter_drop (by decide +kernel)] at p2
    walk_at "rd"
    try (with_reducible refine r_ix0 (c2.sqt (c1.sqt hq)) ?_)
    walk_at "rd"
    walk_at "itk"
    walk_at "nx"
    walk_at "rd"
    try (with_reducible refine r_ix0 (c2.sqt (c1.sqt hq)) ?_)
    walk_at "rd"
    walk_at "itk"
    walk_at "rd"
    exact k pc H2 n1 ⟨⟨_, e2, p2⟩, keys_drop nd⟩ (Ch.fresh1 c1 c2 n1)
  | ren o n =>
    obtain ⟨a, ws, rfl, hq, hs⟩ := dt_tup hd
    obtain ⟨x0, x1, x2, rfl, h0, h1, h2⟩ := dts3 hs
    have := dt_str h0; subst this
    have := dt_str h1; subst this
    have := dt_str h2; subst this
    obtain ⟨k0, d0, r1, r2, r3⟩ := ren_rs ok
    walk_at "rd"
    rename_i pc H1 n1 c1 e1
    have pcp : pc ≠ p := fun q => by rw [q, hp] at n1; cases n1
    refine copy_loop (c1.at0 hp) (he.mono c1) nd lm e1 pcp (c1.sqt hq) fun v3 ys H2 c2 e2 p2 => ?_
    rw [filter_drop (by decide +kernel)] at p2
    have C2 : Ch [] H H2 := Ch.fresh1 c1 c2 n1
    walk_at "rd"
    try (with_reducible refine r_ix0 (C2.sqt hq) ?_)
    walk_at "rd"
    walk_at "itk"
    walk_at "nx"
    walk_at "rd"
    try (with_reducible refine r_ix0 (C2.sqt hq) ?_)
    walk_at "rd"
    walk_at "itk"
    walk_at "nx"
    walk_at "rd"
    try (with_reducible refine r_ix1 (C2.sqt hq) ?_)
    walk_at "rd"
    obtain ⟨q0, tv0, g1, g2, g3⟩ := he.look_yes r1
    refine dgtq (.inl (C2.at0 hp)) g1 ?_
    walk_at "rd"
    try (with_reducible refine r_ix2 (C2.sqt hq) ?_)
    walk_at "rd"
    have ll : (dropM m o).length ≤ m.length := List.length_filter_le _ _
    refine dptq e2 (by rw [p2.len]; omega) fun H3 c3 e3 => ?_
    have C3 : Ch [] H H3 := Ch.fresh1 C2 c3 n1
    have nk : ∀ e ∈ ys, ¬ e.1 = (Sum.inr n : Key) := fun e he' q => by
      have : e.1 ∈ ys.map (·.1) := List.mem_map.mpr ⟨e, he', rfl⟩
      rw [p2.keys] at this
      obtain ⟨x, hx, ex⟩ := List.mem_map.mp this
      rw [q] at ex
      have : n ∈ m.map (·.1) := List.mem_map.mpr ⟨x, (List.mem_filter.mp hx).1, inr_eq.mp ex⟩
      exact mem_look.mp this r3
    rw [putK_app nk] at e3
    have p3 : PEnts K H3 (ys ++ [(Sum.inr n, .ref q0)]) (dropM m o ++ [(n, k0, d0)]) := (p2.mono c3).append (.cons (C3.sqt g2) (g3.mono C3) .nil)
    walk_at "rd"
    try (with_reducible refine r_ix1 (C3.sqt hq) ?_)
    walk_at "rd"
    refine dgtq (.inl (C3.at0 hp)) g1 ?_
    walk_at "rd"
    try (with_reducible refine r_ix0 (C3.sqt g2) ?_)
    walk_at "rd"
    try (with_reducible refine r_ix1 (C3.sqt hq) ?_)
    walk_at "rd"
    rename_i u H4 n4 c4 e4 pt H5 n5 c5 e5
    have ptp : pt ≠ pc := (ne_of_none (c4.at0 e3) n5).symm
    have C5 : Ch [] H H5 := (C3.trans c4).trans c5
    have nd3 : ((dropM m o ++ [(n, k0, d0)]).map (·.1)).Nodup := by
      rw [List.map_append]
      refine nd_snoc (keys_drop nd) fun hm => ?_
      have := mem_look.mp hm
      rw [mlook_drop, r3] at this
      split at this <;> exact this rfl
    have memo := mlook_mem r1
    refine turn_loop (c5.at0 (c4.at0 e3)) ((p3.mono c4).mono c5) nd3 (by rw [List.length_append]; show (dropM m o).length + 1 ≤ 1000; have := gp.len; omega) e5 ptp (C5.sqt hq) (c5.sqt (SqT.of e4)) (kind_pl (gp.gm _ memo).kd) (word_pl (gp.gm _ memo).wd) (fun e he' => ?_) fun v3 ys' H6 c6 e6 p6 => ?_
    · rcases List.mem_append.mp he' with h | h
      · have := (gp.gm e (List.mem_filter.mp h).1).ok
        exact ⟨this.pl, this.dp⟩
      · rw [List.mem_singleton.mp h]
        have := (gp.gm _ memo).ok
        exact ⟨this.pl, this.dp⟩
    · walk_at "rd"
      have e7 : edW m (.ren o n) = List.map (fun (e : Str × Str × PyData) => (e.1, e.2.1, renD k0 o n e.2.2)) (dropM m o ++ [(n, k0, d0)]) := by simp only [edW, r1]
      have npt : H pt = none := (C3.trans c4).free n5
      refine k pt H6 npt ?_ (Ch.fresh1 C5 c6 npt)
      rw [e7]
      refine ⟨⟨_, e6, p6⟩, ?_⟩
      rw [List.map_map]
      exact nd3
/-! The law's own world. -/
structure WoA (K : PySem.W.Frag) (H : Hp) (wa wp wd wu : Addr) (dn un : List Addr) (lim : Int) : Prop where
  ob : H wa = some (.lst [.ref wp, .ref wd, .ref wu, .int lim])
  dls : H wd = some (.lst (dn.map V.ref))
  uls : H wu = some (.lst (un.map V.ref))
  n1 : wa ≠ wd
  n2 : wa ≠ wu
  n3 : wd ≠ wu
  l1 : 1 ≤ lim
  l2 : lim ≤ 100
  dz : dn.length ≤ 100
  uz : un.length ≤ 100
structure WoM (K : PySem.W.Frag) (H : Hp) (G : List Addr) (wa : Addr) (t : MS) : Prop where
  ex : ∃ wp wd wu dna una, G = wa :: wd :: wu :: wp :: (dna ++ una) ∧ WoA K H wa wp wd wu dna una t.lim ∧ PapAt K H wp t.m ∧ PapsAt K H dna t.dn ∧ PapsAt K H una t.un
section
variable {K : PySem.W.Frag} {H H1 H' : Hp} {M G G' : List Addr} {wa : Addr} {t : MS}
theorem WoA.at {wp wd wu : Addr} {dn un : List Addr} {lim : Int} (h : WoA K H wa wp wd wu dn un lim) (c : Ch M H H') (n1 : wa ∉ M) (n2 : wd ∉ M) (n3 : wu ∉ M) : WoA K H' wa wp wd wu dn un lim := by
  obtain ⟨ob, dls, uls, a, b, d, l1, l2, dz, uz⟩ := h
  exact ⟨c.at ob n1, c.at dls n2, c.at uls n3, a, b, d, l1, l2, dz, uz⟩
theorem WoM.at (h : WoM K H G wa t) (c : Ch M H H') (n : ∀ a ∈ G, a ∉ M) : WoM K H' G wa t := by
  obtain ⟨wp, wd, wu, dna, una, rfl, D, hp, hd, hu⟩ := h
  exact ⟨wp, wd, wu, dna, una, rfl, D.at c (n _ (by simp)) (n _ (by simp)) (n _ (by simp)), hp.at c (n _ (by simp)), hd.at c fun a ha => n a (by simp [ha]), hu.at c fun a ha => n a (by simp [ha])⟩
theorem WoM.at0 (h : WoM K H G wa t) (c : Ch [] H H') : WoM K H' G wa t := h.at c fun _ _ => by simp
theorem WoM.live (h : WoM K H G wa t) : ∀ a ∈ G, H a ≠ none := by
  obtain ⟨wp, wd, wu, dna, una, rfl, D, hp, hd, hu⟩ := h
  intro a ha
  simp only [List.mem_cons, List.mem_append] at ha
  rcases ha with rfl | rfl | rfl | rfl | ha | ha
  · rw [D.ob]; simp
  · rw [D.dls]; simp
  · rw [D.uls]; simp
  · exact hp.live
  · exact hd.live a ha
  · exact hu.live a ha
theorem WoA.off {wp wd wu : Addr} {dn un : List Addr} {lim : Int} (D : WoA K H wa wp wd wu dn un lim) : ∀ a m, PapAt K H a m → a ∉ [wa, wd, wu] := fun a m h => by
  obtain ⟨⟨l, e, _⟩, _⟩ := h
  have h1 : a ≠ wa := ne_of e D.ob (by intro z; cases z)
  have h2 : a ≠ wd := ne_of e D.dls (by intro z; cases z)
  have h3 : a ≠ wu := ne_of e D.uls (by intro z; cases z)
  simp [h1, h2, h3]
end
/-- _law_step(world, papers): by addresses -/
def spStepM (K : PySem.W.Frag) : Sp := fun vs H Q _ => ∃ G wa t p' m', vs = [.ref wa, .ref p'] ∧ WoM K H G wa t ∧ PapAt K H p' m' ∧ p' ∉ G ∧
  ∀ v G' H', WoM K H' G' wa (takeM t m') → Ch G H H' → (∀ a ∈ G', a ∈ G ∨ a = p' ∨ H a = none) → Dt K H' v doneD → Q v H'
theorem pure_step {K : PySem.W.Frag} (vs : List V) (H : Hp) (Q : VK) (E : XK) (h : spStepM K vs H Q E) : t__law_step K { nx := fun _ H' => Q .non H', rt := Q } (L2.start N__law_step vs) H := by
  obtain ⟨G, wa, t, p', m', rfl, ⟨wp, wd, wu, dna, una, rfl, D, hp, hd, hu⟩, hp', nG, k⟩ := h
  have off := D.off
  obtain ⟨ob, dls, uls, a1, a2, a3, l1, l2, dz, uz⟩ := D
  unfold t__law_step
  walk_at "rd"
  rename_i l1' H1 n1 c1 e1
  refine r_addL (c1.at0 dls) e1 (by simp; omega) fun d1 H2 n2 c2 e2 => ?_
  walk_at "rd"
  try (with_reducible refine r_ixL (SqL.of (c2.at0 (c1.at0 ob))) rfl ?_)
  walk_at "rd"
  refine r_slL (SqL.of e2) l1 (by simp; omega) fun d2 H3 n3 c3 e3 => ?_
  have C3 : Ch [] H H3 := (c1.trans c2).trans c3
  have ob3 := C3.at0 ob
  walk_at "rd"
  rename_i H4 c4 e4 u5 H5 n5 c5 e5 H6 c6 e6 H7 c7 e7 r8 H8 n8 c8 e8
  have w2 : d2 ≠ wa := (ne_of_none (c2.at0 (c1.at0 ob)) n3).symm
  have w5 : u5 ≠ wa := (ne_of_none e4 n5).symm
  have e3' : H3 d2 = some (.lst ((lastN t.lim.toNat (dna ++ [wp])).map V.ref)) := by
    rw [e3, ← lastN_map, List.map_append] <;> rfl
  have C4 : Ch [wa] H H4 := C3.nil.trans c4
  have C7 : Ch [wa] H H7 := ((C4.step c5).trans c6).trans c7
  have C8 : Ch [wa] H H8 := C7.step c8
  have d24 : H4 d2 = some (.lst ((lastN t.lim.toNat (dna ++ [wp])).map V.ref)) := c4.at e3' (by simp [w2])
  have du : d2 ≠ u5 := ne_of_none d24 n5
  have offs : ∀ {as ms}, PapsAt K H as ms → ∀ a ∈ as, a ∉ [wa] := fun h a ha z => PapsAt.all off h a ha (by simp at z; simp [z])
  have offp : p' ∉ [wa] := fun z => off p' m' hp' (by simp at z; simp [z])
  have hda : PapsAt K H (dna ++ [wp]) (t.dn ++ [t.m]) := PapsAt.append hd (.cons hp .nil)
  refine k (.ref r8) (wa :: d2 :: u5 :: p' :: (lastN t.lim.toNat (dna ++ [wp]) ++ [])) H8 ⟨p', d2, u5, _, [], rfl, ⟨?_, ?_, ?_, w2.symm, w5.symm, du, l1, l2, Nat.le_trans (lastN_len _ _) (by omega), by simp⟩, hp'.at C8 offp, PapsAt.at C8 (PapsAt.last _ hda) fun a ha => offs hda a (List.mem_of_mem_drop ha), .nil⟩ (C8.mono (by simp)) (fun a ha => ?_) (.tup (SqT.of e8) (.cons (.str _) (.cons (.bl true) .nil)))
  · rw [c8.at0 e7]
    rfl
  · exact c8.at0 (c7.at (c6.at (c5.at0 d24) (by simp [w2])) (by simp [w2]))
  · exact c8.at0 (c7.at (c6.at e5 (by simp [w5])) (by simp [w5]))
  · simp only [List.mem_cons, List.mem_append, List.append_nil] at ha
    rcases ha with rfl | rfl | rfl | rfl | ha
    · exact .inl (by simp)
    · exact .inr (.inr ((c1.trans c2).free n3))
    · exact .inr (.inr (C4.free n5))
    · exact .inr (.inl rfl)
    · have := List.mem_of_mem_drop ha
      simp only [List.mem_append, List.mem_singleton] at this
      rcases this with h | h
      · exact .inl (by simp [h])
      · exact .inl (by simp [h])
end K9
namespace K9
open PySem PySem.Spec PyProof.Rows L2
/-! ### words of tactics -/
local macro_rules | `(tactic| walk_at "hp") => `(tactic| (first
  | assumption | exact upd_same
  | (refine Ch.at0 (H := ?hpH) ?hpc ?hph; (case hpc => assumption); (case hph => walk_at "hp"))
  | (refine Ch.tup (M := ?hpM) (H := ?hpH) ?hpc ?hph; (case hpc => assumption); (case hph => walk_at "hp"))
  | (refine Ch.at (M := ?hpM) (H := ?hpH) ?hpc ?hph ?hpn; (case hpc => assumption); (case hph => walk_at "hp"); (case hpn => walk_at "ni"))
  | fail "hp"))
local macro_rules | `(tactic| walk_at "ni") => `(tactic| (first | exact ni0 | assumption | (refine ni1 ?nia ?nib; (case nia => walk_at "nq"); (case nib => walk_at "ni")) | fail "ni"))
local macro_rules | `(tactic| walk_at "nq") => `(tactic| (first | assumption | exact Ne.symm (by assumption) | (refine ne_of_none (H := ?nqH) (o := ?nqo) ?nqa ?nqb; (case nqb => assumption); (case nqa => walk_at "hp")) | (refine Ne.symm (ne_of_none (H := ?nqH) (o := ?nqo) ?nqa ?nqb); (case nqb => assumption); (case nqa => walk_at "hp")) | fail "nq"))
local macro_rules | `(tactic| walk_at "sq") => `(tactic| (first
  | assumption | exact SqL.of (by assumption)
  | (refine Ch.sql (M := ?sqM) (H := ?sqH) ?sqc ?sqh ?sqn; (case sqc => assumption); (case sqh => walk_at "sq"); (case sqn => walk_at "ni"))
  | fail "sq"))
local macro_rules | `(tactic| walk_at "tq") => `(tactic| (first
  | assumption | exact SqT.of (by assumption)
  | (refine Ch.sqt (M := ?tqM) (H := ?tqH) ?tqc ?tqh; (case tqc => assumption); (case tqh => walk_at "tq"))
  | fail "tq"))
local macro_rules | `(tactic| walk_at "rd1") => `(tactic| (first
  | ((with_reducible refine te_var (v := ?rdw) ?rdv ?_); (case rdv => exact rfl))
  | (with_reducible (first
  | refine te_c ?_ | refine te_op ?_ | refine te_nil ?_ | refine te_cons ?_ | refine te_cb ?_ | refine te_callR ?_ | refine te_tup ?_ | refine te_lst ?_
  | refine ts_seq ?_ | refine ts_asg ?_ | refine tg_name ?_ | refine ts_ret ?_ | refine ts_retN ?_ | refine ts_if ?_ | refine ts_drop ?_ | refine ts_next ?_ | refine tg_sub ?_
  | refine nd_nx ?_ | refine nd_rt ?_ | refine nd_bk ?_ | refine nd_ct ?_
  | refine tt_test ?_ | refine tt_b ?_ | refine tt_and ?_ | refine tt_or ?_ | refine tt_not ?_ | refine blq ?_ | refine inq ?_ | refine iteT ?_ | refine iteF ?_
  | refine te_then ?_ | refine te_if ?_ | refine te_sl ?_ | refine te_part ?_ | refine te_chain ?_ | refine te_andV ?_ | refine te_orV ?_ | refine te_notV ?_ | refine te_un ?_
  | refine te_din ?_ | refine te_dni ?_ | refine te_dgt ?_ | refine ts_dpt ?_ | refine ts_for ?_ | refine ti_rng ?_ | refine ti_rng2 ?_ | refine ti_lst ?_ | refine ti_tup ?_ | refine ti_str ?_ | refine ti_key ?_ | refine strq ?_ | refine te_lc ?_ | refine te_dc ?_ | refine tt_yes ?_
  | refine r_addI ?_ | refine r_I0 ?_ | refine r_eqI ?_ | refine r_eqS ?_ | refine r_neI ?_ | refine r_neS ?_ | refine r_U ?_ | refine r_intI ?_ | refine r_intB ?_))
  | ((with_reducible refine r_ixL (xs := ?rdx) (v := ?rdw) ?rdh ?rde ?_); (case rdh => walk_at "sq"); (case rde => exact rfl))
  | ((with_reducible refine r_ixT (xs := ?rdx) (v := ?rdw) ?rdh ?rde ?_); (case rdh => walk_at "tq"); (case rde => exact rfl))
  | ((with_reducible refine r_lenL (xs := ?rdx) ?rdh ?_); (case rdh => walk_at "sq"))
  | ((with_reducible refine r_lenT (xs := ?rdx) ?rdh ?_); (case rdh => walk_at "tq"))
  | ((with_reducible refine r_lenD (kvs := ?rdx) ?rdh ?_); (case rdh => walk_at "hp"))
  | ((with_reducible refine r_set' (xs := ?rdx) (j := ?rdj) ?rdh ?rde ?_); (case rdh => walk_at "hp"); (case rde => exact rfl); (intro rH rc rh))
  | ((with_reducible refine newT ?rdc ?_); (case rdc => (simp; done)); (intro rp rH rn rc rh))
  | ((with_reducible refine newL ?rdc ?_); (case rdc => (simp; done)); (intro rp rH rn rc rh))
  | ((with_reducible refine te_dnw ?_); (intro rp rH rn rc rh))
  | ((with_reducible refine lisq (xs := ?rdx) ?rdh ?_); (case rdh => walk_at "sq"))
  | ((with_reducible refine tupq (xs := ?rdx) ?rdh ?_); (case rdh => walk_at "tq"))
  | ((with_reducible refine rngq ?rdc ?_); (case rdc => walk_at "sd"))
  | ((with_reducible refine r_I ?rdc ?_); (case rdc => walk_at "sd"))
  | ((with_reducible refine r_mulI ?rdc ?_); (case rdc => omega))
  | fail "rd"))
local macro_rules | `(tactic| walk_at "sd") => `(tactic| (first | (constructor <;> omega) | omega | decide | (refine ⟨?_, ?_, ?_⟩ <;> decide)))
local macro_rules | `(tactic| walk_at "rd") => `(tactic| repeat (walk_at "rd1"))
local macro_rules | `(tactic| walk_at "ch") => `(tactic| (first
  | assumption | exact Ch.refl | exact Ch.nil (by assumption)
  | (refine Ch.trans (H1 := ?chm) ?cha ?chb; (case chb => (first | assumption | exact Ch.nil (by assumption) | (refine Ch.mono (M := ?chl) ?chx ?chy; (case chx => assumption); (case chy => (intro _ chz; simp at chz ⊢; simp [chz]))))); (case cha => walk_at "ch"))
  | fail "ch"))
local macro_rules | `(tactic| walk_at "nx") => `(tactic| repeat (with_reducible (first | refine ts_next ?_ | refine nd_nx ?_)))
local macro_rules | `(tactic| walk_at "dm") => `(tactic| (first | assumption | (refine Dt.mono (M := ?dmM) (H := ?dmH) ?dmc ?dmh; (case dmc => assumption); (case dmh => walk_at "dm")) | fail "dm"))
local macro_rules | `(tactic| walk_at "dt") => `(tactic| (first | exact Dt.int _ | exact Dt.str _ | exact Dt.bl _ | exact Dt.non | walk_at "dm" | (refine Dt.tup (xs := ?dtx) ?dta ?dtb; (case dta => walk_at "tq"); (case dtb => walk_at "dts")) | fail "dt"))
local macro_rules | `(tactic| walk_at "dsm") => `(tactic| (first | assumption | (refine Dts.mono (M := ?dmM) (H := ?dmH) ?dmc ?dmh; (case dmc => assumption); (case dmh => walk_at "dsm")) | fail "dsm"))
local macro_rules | `(tactic| walk_at "dts") => `(tactic| (first | exact Dts.nil | walk_at "dsm" | (refine Dts.cons ?dtsa ?dtsb; (case dtsa => walk_at "dt"); (case dtsb => walk_at "dts")) | fail "dts"))
local macro_rules | `(tactic| walk_at "it") => `(tactic| (first | refine itT (by rfl) ?_ | refine itF (by rfl) ?_ | fail "it"))
local macro_rules | `(tactic| walk_at "if") => `(tactic| with_reducible (first | refine iteF ?_ | refine iteT ?_))
local macro_rules | `(tactic| walk_at "itk") => `(tactic| (first | (refine itT ?itk ?_; (case itk => decide +kernel)) | (refine itF ?itk ?_; (case itk => decide +kernel)) | fail "itk"))
local macro_rules | `(tactic| walk_at "rd1") => `(tactic| (first
  | (with_reducible (first | refine ts_fld ?_ | refine te_fld ?_ | refine te_app ?_ | refine te_pop ?_))
  | ((with_reducible refine' gt_papers ?rdt ?rdh ?rdk); (case rdt => assumption); (case rdh => walk_at "hp"))
  | ((with_reducible refine' gt_done ?rdt ?rdh ?rdk); (case rdt => assumption); (case rdh => walk_at "hp"))
  | ((with_reducible refine' gt_undone ?rdt ?rdh ?rdk); (case rdt => assumption); (case rdh => walk_at "hp"))
  | ((with_reducible refine' gt_limit ?rdt ?rdh ?rdk); (case rdt => assumption); (case rdh => walk_at "hp"))
  | ((with_reducible refine' st_papers ?rdt ?rdh ?rdk); (case rdt => assumption); (case rdh => walk_at "hp"); (intro rH rc rh))
  | ((with_reducible refine' st_done ?rdt ?rdh ?rdk); (case rdt => assumption); (case rdh => walk_at "hp"); (intro rH rc rh))
  | ((with_reducible refine' st_undone ?rdt ?rdh ?rdk); (case rdt => assumption); (case rdh => walk_at "hp"); (intro rH rc rh))
  | ((with_reducible refine' st_limit ?rdt ?rdh ?rdk); (case rdt => assumption); (case rdh => walk_at "hp"); (intro rH rc rh))
  | fail "rdD"))
/-! What the law's own world says is due. -/
theorem stepW_post {K : PySem.W.Frag} {H H' : Hp} {G : List Addr} {wa p' : Addr} {t : MS} {m' : PM} {Q : VK} {E : XK} (D : WoM K H G wa t) (np : H p' = none) (hp : PapAt K H' p' m') (c : Ch [] H H')
    (k : ∀ v G' H', WoM K H' G' wa (takeM t m') → Adv H G H' G' → Dt K H' v doneD → Q v H') : spStepM K [.ref wa, .ref p'] H' Q E := by
  refine ⟨G, wa, t, p', m', rfl, D.at0 c, hp, fun h => D.live _ h np, fun v G' H2 D2 c2 ext hv => k v G' H2 D2 ⟨c.nil.trans c2, fun a ha => ?_⟩ hv⟩
  rcases ext a ha with h | rfl | h
  · exact .inl h
  · exact .inr np
  · exact .inr (c.dom _ h)
def spRunDue (K : PySem.W.Frag) : Sp := fun vs H Q _ => ∃ G wa t l evs es pool, vs = [.ref wa, .ref l] ∧ WoM K H G wa t ∧ SqL K H l evs ∧ Dts K H evs (es.map Ed.dat) ∧ es.length ≤ 1000 ∧ GP pool t.m ∧ (∀ e ∈ es, EdP pool e) ∧
  ∀ v G' H', WoM K H' G' wa (doM edW t (.run es)).1 → Adv H G H' G' → Dt K H' v (doM edW t (.run es)).2 → Q v H'
theorem Ch.sql0 {K : PySem.W.Frag} {H H' : Hp} {l : Addr} {xs : List V} (c : Ch [] H H') (h : SqL K H l xs) : SqL K H' l xs := c.sql h (by simp)
theorem pure_run_due {K : PySem.W.Frag} (vs : List V) (H : Hp) (Q : VK) (E : XK) (h : spRunDue K vs H Q E) : t__law_run_due K (spReason K) (spEditedW K) (spStepM K) { nx := fun _ H' => Q .non H', rt := Q } (L2.start N__law_run_due vs) H := by
  obtain ⟨G, wa, t, l, evs, es, pool, rfl, D, hq, hev, hes, gp, hp, k⟩ := h
  have D' := D
  obtain ⟨wp, wd, wu, dna, una, eG, W, hpp, _⟩ := D'
  have hl := hev.len
  rw [List.length_map] at hl
  have ob := W.ob
  unfold t__law_run_due
  walk_at "rd"
  refine forq walks_rng (fun i σ H' => ∃ mp mi v3, σ = [some (.ref wa), some (.ref l), some (.ref mp), v3] ∧ Ch [] H H' ∧ PapAt K H' mp mi ∧ GP pool mi ∧ runX edW t.m es 0 = runX edW mi (es.drop i) i ∧ ((i = 0 ∧ mi = t.m) ∨ H mp = none)) ?_ (fun _ _ _ _ => trivial) ?_ ?_
  · exact ⟨wp, t.m, _, rfl, Ch.refl, hpp, gp, rfl, .inl ⟨rfl, rfl⟩⟩
  · rintro i x σ H' hi rfl ⟨mp, mi, v3, rfl, c, hm, g, hrun, hfr⟩
    have hi' : i < es.length := by rw [← hl]; simpa using hi
    obtain ⟨ev, e, h1, h2, h3⟩ := dts_get hev hi'
    have pe := hp e (List.mem_of_getElem? h2)
    have q0 : (0 : Int) + (i : Int) = (i : Int) := by omega
    rw [q0]
    walk_at "rd"
    refine r_ixL (c.sql0 hq) (atI_nat h1) ?_
    walk_at "rd"
    refine ⟨mp, mi, ev, e, pool, rfl, hm, h3.mono c, g, pe, fun H1 c1 => ?_⟩
    walk_at "rd"
    rw [rsS_ok]
    by_cases ok : rsE mi e = .ok
    · refine itF (by rw [decide_eq_true ok]; rfl) ?_
      walk_at "nx"
      walk_at "rd"
      refine r_ixL (c1.sql0 (c.sql0 hq)) (atI_nat h1) ?_
      walk_at "rd"
      refine ⟨mp, mi, ev, e, pool, rfl, hm.at c1 (by simp), (h3.mono c).mono c1, g, pe, ok, fun p' H2 np hp' c2 => ?_⟩
      walk_at "rd"
      exact ⟨p', edW mi e, _, rfl, (c.trans c1).trans c2, hp', g.edW pe ok, hrun.trans (runX_go h2 ok), .inr ((c.trans c1).dom _ np)⟩
    · refine itT (by rw [decide_eq_false ok]; rfl) ?_
      walk_at "rd"
      rename_i r H2 n2 c2 e2
      have e1 : doM edW t (.run es) = (t, failD i) := by simp only [doM, hrun, runX_stop h2 ok]
      refine k (.ref r) G H2 (by rw [e1]; exact D.at0 ((c.trans c1).trans c2)) (Adv.nil ((c.trans c1).trans c2)) (by rw [e1]; exact .tup (SqT.of e2) (.cons (.str _) (.cons (.int _) .nil)))
  · rintro σ H' ⟨mp, mi, v3, rfl, c, hm, g, hrun, hfr⟩
    have ed : es.drop ((evs.length : Int).toNat) = [] := List.drop_eq_nil_of_le (by simp; omega)
    rw [ed] at hrun
    have e1 : doM edW t (.run es) = (if es = [] then t else takeM t mi, doneD) := by
      have : runX edW t.m es 0 = .inr mi := hrun
      simp only [doM, this]
    walk_at "rd"
    by_cases z : es = []
    · subst z
      refine itF (decide_eq_false (by simp at hl; simp [hl])) ?_
      walk_at "nx"
      walk_at "rd"
      rename_i r H2 n2 c2 e2
      exact k (.ref r) G H2 (by rw [e1, if_pos rfl]; exact D.at0 (c.trans c2)) (Adv.nil (c.trans c2)) (by rw [e1]; exact .tup (SqT.of e2) (.cons (.str _) (.cons (.bl true) .nil)))
    · have pos : 0 < es.length := List.length_pos_iff.mpr z
      refine itT (decide_eq_true (by omega)) ?_
      walk_at "rd"
      have nm : H mp = none := by
        rcases hfr with ⟨h0, _⟩ | h
        · exfalso
          have : (evs.length : Int).toNat = evs.length := by simp
          omega
        · exact h
      exact stepW_post D nm hm c fun v G' H2 D2 a2 hv => k v G' H2 (by rw [e1, if_neg z]; exact D2) a2 (by rw [e1]; exact hv)
/-! _law_due, walked. -/
def DeedOff (K : PySem.W.Frag) (H : Hp) (v : V) (G : List Addr) : Prop := ∀ a l, v = .ref a → SqT K H a [.str (PySem.Str.ofString "run"), .ref l] → l ∉ G
def spDue (K : PySem.W.Frag) : Sp := fun vs H Q _ => ∃ G wa t v δ pool, vs = [.ref wa, v] ∧ WoM K H G wa t ∧ DeedAt K H v δ ∧ DdP pool δ ∧ GP pool t.m ∧ t.dn.length + t.un.length ≤ 100 ∧ t.dn.length ≤ t.lim.toNat ∧
  ∀ u G' H', WoM K H' G' wa (doM edW t δ).1 → Adv H G H' G' → Dt K H' u (doM edW t δ).2 → Q u H'
theorem lastN_all {α : Type} {L : Nat} {xs : List α} (h : xs.length ≤ L) : lastN L xs = xs := by
  unfold lastN
  rw [show xs.length - L = 0 by omega]
  rfl
theorem done_dt {K : PySem.W.Frag} {H : Hp} {r : Addr} (e : H r = some (.tup [.str (PySem.Str.ofString "done"), .bl true])) : Dt K H (.ref r) doneD := .tup (SqT.of e) (.cons (.str _) (.cons (.bl true) .nil))
theorem ref_dt {K : PySem.W.Frag} {H : Hp} {r q : Addr} {a b c : Bool} (e : H r = some (.tup [.str (PySem.Str.ofString "refused"), .ref q])) (e2 : H q = some (.tup [.bl a, .bl b, .bl c])) : Dt K H (.ref r) (refD a b c) :=
  .tup (SqT.of e) (.cons (.str _) (.cons (.tup (SqT.of e2) (.cons (.bl _) (.cons (.bl _) (.cons (.bl _) .nil)))) .nil))
theorem pure_due {K : PySem.W.Frag} (vs : List V) (H : Hp) (Q : VK) (E : XK) (h : spDue K vs H Q E) : t__law_due K (spRunDue K) (spReason K) (spStepM K) (spEditedW K) { nx := fun _ H' => Q .non H', rt := Q } (L2.start N__law_due vs) H := by
  obtain ⟨G, wa, t, v, δ, pool, rfl, D, hδ, hp, gp, hl, hdl, k⟩ := h
  have D' := D
  obtain ⟨wp, wd, wu, dna, una, rfl, W, hpp, hda, hua⟩ := D'
  have off := W.off
  obtain ⟨ob, dls, uls, a1, a2, a3, l1, l2, dz, uz⟩ := W
  unfold t__law_due
  cases δ with
  | ed e =>
    have hδ' : Dt K H v e.dat := hδ
    have go : ∃ a x ws, v = .ref a ∧ SqT K H a (.str x :: ws) ∧ (decide (x = PySem.Str.ofString "run") = false ∧ (decide (x = PySem.Str.ofString "undo") || decide (x = PySem.Str.ofString "redo")) = false ∧ decide (x = PySem.Str.ofString "keep") = false) := by
      cases e with
      | put z k' d =>
        obtain ⟨a, ws, rfl, hq, hs⟩ := dt_tup hδ'
        obtain ⟨x0, x1, x2, x3, rfl, h0, _⟩ := dts4 hs
        have := dt_str h0; subst this
        exact ⟨a, _, _, rfl, hq, by decide +kernel⟩
      | drop z =>
        obtain ⟨a, ws, rfl, hq, hs⟩ := dt_tup hδ'
        obtain ⟨x0, x1, rfl, h0, _⟩ := dts2 hs
        have := dt_str h0; subst this
        exact ⟨a, _, _, rfl, hq, by decide +kernel⟩
      | ren o n' =>
        obtain ⟨a, ws, rfl, hq, hs⟩ := dt_tup hδ'
        obtain ⟨x0, x1, x2, rfl, h0, _⟩ := dts3 hs
        have := dt_str h0; subst this
        exact ⟨a, _, _, rfl, hq, by decide +kernel⟩
    obtain ⟨a, x, ws, rfl, hq, q1, q2, q3⟩ := go
    walk_at "rd"
    refine r_ix0 hq ?_
    walk_at "rd"
    refine itF q1 ?_
    walk_at "nx"
    walk_at "rd"
    refine r_ix0 hq ?_
    walk_at "rd"
    rename_i y1 H1 n1 c1 e1
    refine r_in2 (SqL.of e1) ?_
    walk_at "rd"
    refine itF q2 ?_
    walk_at "nx"
    walk_at "rd"
    refine r_ix0 (c1.sqt hq) ?_
    walk_at "rd"
    refine itF q3 ?_
    walk_at "nx"
    walk_at "rd"
    have hp1 : PapAt K H1 wp t.m := hpp.at c1 (by simp)
    refine ⟨wp, t.m, .ref a, e, pool, rfl, hp1, hδ'.mono c1, gp, hp, fun H2 c2 => ?_⟩
    walk_at "rd"
    rw [rsS_ok]
    by_cases ok : rsE t.m e = .ok
    · refine itF (by rw [decide_eq_true ok]; rfl) ?_
      walk_at "nx"
      walk_at "rd"
      refine ⟨wp, t.m, .ref a, e, pool, rfl, hp1.at c2 (by simp), (hδ'.mono c1).mono c2, gp, hp, ok, fun p' H3 np hp' c3 => ?_⟩
      walk_at "rd"
      have e1 : doM edW t (.ed e) = (takeM t (edW t.m e), doneD) := if_pos ok
      exact stepW_post D ((c1.trans c2).dom _ np) hp' ((c1.trans c2).trans c3) fun u G' H4 D4 a4 hu => k u G' H4 (by rw [e1]; exact D4) a4 (by rw [e1]; exact hu)
    · refine itT (by rw [decide_eq_false ok]; rfl) ?_
      walk_at "rd"
      rename_i q3 H3 n3 c3 e3 q4 H4 n4 c4 e4
      rw [rsS_kind] at e3
      have e1 : doM edW t (.ed e) = (t, refD false false (decide (rsE t.m e = .kind))) := if_neg ok
      have C : Ch [] H H4 := ((c1.trans c2).trans c3).trans c4
      exact k (.ref q4) _ H4 (by rw [e1]; exact D.at0 C) (Adv.nil C) (by rw [e1]; exact ref_dt e4 (c4.at0 e3))
  | run es =>
    obtain ⟨a, l, evs, rfl, hq, hle, hd⟩ := hδ
    walk_at "rd"
    refine itT (by rfl) ?_
    walk_at "rd"
    exact ⟨_, wa, t, l, evs, es, pool, rfl, D, SqL.of hle, hd, by have := hp.1; omega, gp, hp.2, k⟩
  | undo =>
    obtain ⟨a, rfl, hq⟩ := hδ
    walk_at "rd"
    refine itF (by rfl) ?_
    walk_at "nx"
    walk_at "rd"
    rename_i y1 H1 n1 c1 e1
    refine r_in2 (SqL.of e1) ?_
    walk_at "rd"
    refine itT (by rfl) ?_
    walk_at "rd"
    have d1 := c1.at0 dls
    try (with_reducible refine r_lenL (xs := dna.map V.ref) (SqL.of d1) ?_)
    walk_at "rd"
    rcases snoc_of dna with rfl | ⟨dn0, x, rfl⟩
    · refine itT (by rfl) ?_
      walk_at "rd"
      rename_i q2 H2 n2 c2 e2 q3 H3 n3 c3 e3
      have e0 : t.dn = [] := List.eq_nil_of_length_eq_zero hda.len.symm
      have ed : doM edW t .undo = (t, refD false true false) := by simp [doM, e0]
      have C : Ch [] H H3 := (c1.trans c2).trans c3
      exact k (.ref q3) _ H3 (by rw [ed]; exact D.at0 C) (Adv.nil C) (by rw [ed]; exact ref_dt e3 (c3.at0 e2))
    refine itF (decide_eq_false (by simp; omega)) ?_
    walk_at "nx"
    obtain ⟨tn, y, en, hd1, hd2⟩ := PapsAt.snoc hda
    have ll := hua.len
    have ln := hd1.len
    rw [en] at hl hdl
    simp only [List.length_append, List.length_cons, List.length_nil] at hl hdl
    have ob1 := c1.at0 ob
    have u1 := c1.at0 uls
    walk_at "rd"
    refine apq u1 ?_
    walk_at "rd"
    refine r_app u1 (by rw [List.length_map]; omega) fun H2 c2 e2 => ?_
    walk_at "rd"
    have ob2 := c2.at ob1 (by simp [a2])
    have dd2 : H2 wd = some (.lst (dn0.map V.ref ++ [V.ref x])) := by rw [c2.at d1 (by simp [a3]), List.map_append] <;> rfl
    try (with_reducible refine r_ixL (SqL.of ob2) rfl ?_)
    refine popq dd2 fun H3 c3 e3 => ?_
    have ob3 := c3.at ob2 (by simp [a1])
    walk_at "rd"
    rename_i H4 c4 e4
    have d4 : H4 wd = some (.lst (dn0.map V.ref)) := c4.at e3 (by simp [a1.symm])
    try (with_reducible refine r_ixL (SqL.of e4) rfl ?_)
    walk_at "rd"
    refine r_slL (SqL.of d4) l1 (by rw [List.length_map]; omega) fun d5 H5 n5 c5 e5 => ?_
    walk_at "rd"
    rename_i H6 c6 e6 r7 H7 n7 c7 e7
    have w5 : d5 ≠ wa := (ne_of_none e4 n5).symm
    have u5 : d5 ≠ wu := fun z => by
      have := c4.at (c3.at e2 (by simp [a3.symm])) (by simp [a2.symm])
      rw [← z, n5] at this
      cases this
    rw [lastN_all (by rw [List.length_map]; omega)] at e5
    have ed : doM edW t .undo = (⟨y, tn, t.un ++ [t.m], t.lim⟩, doneD) := by simp [doM, en]
    have C4 : Ch [wa, wd, wu] H H4 := ((c1.nil.trans (c2.mono (by simp))).trans (c3.mono (by simp))).trans (c4.mono (by simp))
    have C7 : Ch [wa, wd, wu] H H7 := ((C4.step c5).trans (c6.mono (by simp))).step c7
    refine k (.ref r7) (wa :: d5 :: wu :: x :: (dn0 ++ (una ++ [wp]))) H7 ?_ ⟨C7.mono (by simp), fun a' ha' => ?_⟩ (by rw [ed]; exact done_dt e7)
    · rw [ed]
      refine ⟨x, d5, wu, dn0, una ++ [wp], rfl, ⟨?_, ?_, ?_, w5.symm, a2, u5, l1, l2, by simp at dz; omega, by simp; omega⟩, hd2.at C7 (off _ _ hd2), PapsAt.at C7 hd1 (PapsAt.all off hd1), PapsAt.append (PapsAt.at C7 hua (PapsAt.all off hua)) (.cons (hpp.at C7 (off _ _ hpp)) .nil)⟩
      · rw [c7.at0 e6]; rfl
      · exact c7.at0 (c6.at e5 (by simp [w5]))
      · rw [c7.at0 (c6.at (c5.at0 (c4.at (c3.at e2 (by simp [a3.symm])) (by simp [a2.symm]))) (by simp [a2.symm])), List.map_append] <;> rfl
    · simp only [List.mem_cons, List.mem_append, List.not_mem_nil, or_false] at ha'
      rcases ha' with rfl | rfl | rfl | rfl | h | h | rfl
      · exact .inl (by simp)
      · exact .inr (C4.free n5)
      · exact .inl (by simp)
      · exact .inl (by simp)
      · exact .inl (by simp [h])
      · exact .inl (by simp [h])
      · exact .inl (by simp)
  | redo =>
    obtain ⟨a, rfl, hq⟩ := hδ
    walk_at "rd"
    refine itF (by rfl) ?_
    walk_at "nx"
    walk_at "rd"
    rename_i y1 H1 n1 c1 e1
    refine r_in2 (SqL.of e1) ?_
    walk_at "rd"
    refine itT (by rfl) ?_
    walk_at "rd"
    have u1 := c1.at0 uls
    have d1 := c1.at0 dls
    try (with_reducible refine r_lenL (xs := una.map V.ref) (SqL.of u1) ?_)
    walk_at "rd"
    rcases snoc_of una with rfl | ⟨un0, x, rfl⟩
    · refine itT (by rfl) ?_
      walk_at "rd"
      rename_i q2 H2 n2 c2 e2 q3 H3 n3 c3 e3
      have e0 : t.un = [] := List.eq_nil_of_length_eq_zero hua.len.symm
      have ed : doM edW t .redo = (t, refD false true false) := by simp [doM, e0]
      have C : Ch [] H H3 := (c1.trans c2).trans c3
      exact k (.ref q3) _ H3 (by rw [ed]; exact D.at0 C) (Adv.nil C) (by rw [ed]; exact ref_dt e3 (c3.at0 e2))
    refine itF (decide_eq_false (by simp; omega)) ?_
    walk_at "nx"
    obtain ⟨tn, y, en, hu1, hu2⟩ := PapsAt.snoc hua
    have ll := hda.len
    have ob1 := c1.at0 ob
    walk_at "rd"
    refine apq d1 ?_
    walk_at "rd"
    refine r_app d1 (by rw [List.length_map]; omega) fun H2 c2 e2 => ?_
    walk_at "rd"
    have ob2 := c2.at ob1 (by simp [a1])
    have uu2 : H2 wu = some (.lst (un0.map V.ref ++ [V.ref x])) := by rw [c2.at u1 (by simp [a3.symm]), List.map_append] <;> rfl
    try (with_reducible refine r_ixL (SqL.of ob2) rfl ?_)
    refine popq uu2 fun H3 c3 e3 => ?_
    have ob3 := c3.at ob2 (by simp [a2])
    walk_at "rd"
    rename_i H4 c4 e4
    have d4 : H4 wd = some (.lst (dna.map V.ref ++ [V.ref wp])) := c4.at (c3.at e2 (by simp [a3])) (by simp [a1.symm])
    try (with_reducible refine r_ixL (SqL.of e4) rfl ?_)
    walk_at "rd"
    refine r_slL (SqL.of d4) l1 (by rw [List.length_append, List.length_map]; simp; omega) fun d5 H5 n5 c5 e5 => ?_
    walk_at "rd"
    rename_i H6 c6 e6 r7 H7 n7 c7 e7
    have u4 : H4 wu = some (.lst (un0.map V.ref)) := c4.at e3 (by simp [a2.symm])
    have w5 : d5 ≠ wa := (ne_of_none e4 n5).symm
    have u5 : d5 ≠ wu := (ne_of_none u4 n5).symm
    have e5' : H5 d5 = some (.lst ((lastN t.lim.toNat (dna ++ [wp])).map V.ref)) := by
      rw [e5, ← lastN_map, List.map_append] <;> rfl
    have ed : doM edW t .redo = (⟨y, lastN t.lim.toNat (t.dn ++ [t.m]), tn, t.lim⟩, doneD) := by simp [doM, en]
    have C4 : Ch [wa, wd, wu] H H4 := ((c1.nil.trans (c2.mono (by simp))).trans (c3.mono (by simp))).trans (c4.mono (by simp))
    have C7 : Ch [wa, wd, wu] H H7 := ((C4.step c5).trans (c6.mono (by simp))).step c7
    have hdd : PapsAt K H (dna ++ [wp]) (t.dn ++ [t.m]) := PapsAt.append hda (.cons hpp .nil)
    refine k (.ref r7) (wa :: d5 :: wu :: x :: (lastN t.lim.toNat (dna ++ [wp]) ++ un0)) H7 ?_ ⟨C7.mono (by simp), fun a' ha' => ?_⟩ (by rw [ed]; exact done_dt e7)
    · rw [ed]
      refine ⟨x, d5, wu, _, un0, rfl, ⟨?_, ?_, ?_, w5.symm, a2, u5, l1, l2, Nat.le_trans (lastN_len _ _) (by show t.lim.toNat ≤ 100; omega), by simp at uz; omega⟩, hu2.at C7 (off _ _ hu2), PapsAt.at C7 (PapsAt.last _ hdd) fun a ha => PapsAt.all off hdd a (List.mem_of_mem_drop ha), PapsAt.at C7 hu1 (PapsAt.all off hu1)⟩
      · rw [c7.at0 e6]; rfl
      · exact c7.at0 (c6.at e5' (by simp [w5]))
      · exact c7.at0 (c6.at (c5.at0 u4) (by simp [a2.symm]))
    · simp only [List.mem_cons, List.mem_append] at ha'
      rcases ha' with rfl | rfl | rfl | rfl | h | h
      · exact .inl (by simp)
      · exact .inr (C4.free n5)
      · exact .inl (by simp)
      · exact .inl (by simp)
      · have := List.mem_of_mem_drop h
        simp only [List.mem_append, List.mem_singleton] at this
        rcases this with h | h
        · exact .inl (by simp [h])
        · exact .inl (by simp [h])
      · exact .inl (by simp [h])
  | keep i =>
    obtain ⟨a, rfl, hq⟩ := hδ
    walk_at "rd"
    refine itF (by rfl) ?_
    walk_at "nx"
    walk_at "rd"
    rename_i y1 H1 n1 c1 e1
    refine r_in2 (SqL.of e1) ?_
    walk_at "rd"
    refine itF (by rfl) ?_
    walk_at "nx"
    walk_at "rd"
    refine itT (by rfl) ?_
    walk_at "rd"
    have ob1 := c1.at0 ob
    have bad : ¬ (1 ≤ i ∧ i ≤ 100) → ∀ q2 H2 q3 H3, Ch [] H1 H2 → H2 q2 = some (.tup [.bl false, .bl false, .bl true]) → Ch [] H2 H3 → H3 q3 = some (.tup [.str (PySem.Str.ofString "refused"), .ref q2]) → Q (.ref q3) H3 := fun no q2 H2 q3 H3 c2 e2 c3 e3 => by
      have ed : doM edW t (.keep i) = (t, refD false false true) := if_neg no
      have C : Ch [] H H3 := (c1.trans c2).trans c3
      exact k (.ref q3) _ H3 (by rw [ed]; exact D.at0 C) (Adv.nil C) (by rw [ed]; exact ref_dt e3 (c3.at0 e2))
    refine itd (fun lo => ?_) (fun lo => ?_)
    · walk_at "rd"
      rename_i q2 H2 n2 c2 e2 q3 H3 n3 c3 e3
      exact bad (by omega) q2 H2 q3 H3 c2 e2 c3 e3
    · walk_at "rd"
      refine itd (fun hi => ?_) (fun hi => ?_)
      · walk_at "rd"
        rename_i q2 H2 n2 c2 e2 q3 H3 n3 c3 e3
        exact bad (by omega) q2 H2 q3 H3 c2 e2 c3 e3
      · walk_at "nx"
        walk_at "rd"
        rename_i H2 c2 e2
        have i1 : 1 ≤ i := by omega
        have i2 : i ≤ 100 := by omega
        have d2 : H2 wd = some (.lst (dna.map V.ref)) := c2.at (c1.at0 dls) (by simp [a1.symm])
        try (with_reducible refine r_ixL (SqL.of e2) rfl ?_)
        walk_at "rd"
        refine r_slL (SqL.of d2) i1 (by rw [List.length_map]; omega) fun d3 H3 n3 c3 e3 => ?_
        walk_at "rd"
        rename_i H4 c4 e4 r5 H5 n5 c5 e5
        have u2 : H2 wu = some (.lst (una.map V.ref)) := c2.at (c1.at0 uls) (by simp [a2.symm])
        have w3 : d3 ≠ wa := (ne_of_none e2 n3).symm
        have u3 : d3 ≠ wu := (ne_of_none u2 n3).symm
        rw [lastN_map] at e3
        have ed : doM edW t (.keep i) = (⟨t.m, lastN i.toNat t.dn, t.un, i⟩, doneD) := if_pos ⟨i1, i2⟩
        have C2 : Ch [wa] H H2 := c1.nil.trans c2
        have C5 : Ch [wa] H H5 := ((C2.step c3).trans c4).step c5
        have offs : ∀ {as ms}, PapsAt K H as ms → ∀ a ∈ as, a ∉ [wa] := fun h a ha z => PapsAt.all off h a ha (by simp at z; simp [z])
        have offp : wp ∉ [wa] := fun z => off wp t.m hpp (by simp at z; simp [z])
        refine k (.ref r5) (wa :: d3 :: wu :: wp :: (lastN i.toNat dna ++ una)) H5 ?_ ⟨C5.mono (by simp), fun a' ha' => ?_⟩ (by rw [ed]; exact done_dt e5)
        · rw [ed]
          refine ⟨wp, d3, wu, _, una, rfl, ⟨?_, ?_, ?_, w3.symm, a2, u3, i1, i2, Nat.le_trans (lastN_len _ _) (by omega), uz⟩, hpp.at C5 offp, PapsAt.at C5 (PapsAt.last _ hda) fun a ha => offs hda a (List.mem_of_mem_drop ha), PapsAt.at C5 hua (offs hua)⟩
          · rw [c5.at0 e4]; rfl
          · exact c5.at0 (c4.at e3 (by simp [w3]))
          · exact c5.at0 (c4.at (c3.at0 u2) (by simp [a2.symm]))
        · simp only [List.mem_cons, List.mem_append] at ha'
          rcases ha' with rfl | rfl | rfl | rfl | h | h
          · exact .inl (by simp)
          · exact .inr (C2.free n3)
          · exact .inl (by simp)
          · exact .inl (by simp)
          · exact .inl (by simp [List.mem_of_mem_drop h])
          · exact .inl (by simp [h])
end K9
namespace K9
open PySem PySem.Spec PyProof.Rows L2
/-! Both histories go the same way. -/
structure PR (pool : List Str) (a b : PM) : Prop where
  eq : EqM a b
  ga : GP pool a
  gb : GP pool b
structure RelM (pool : List Str) (s t : MS) : Prop where
  m : PR pool s.m t.m
  dn : All2 (PR pool) s.dn t.dn
  un : All2 (PR pool) s.un t.un
  lim : s.lim = t.lim
  l1 : 1 ≤ s.lim
  l2 : s.lim ≤ 100
  dl : s.dn.length ≤ s.lim.toNat
  du : s.dn.length + s.un.length ≤ 100
section
variable {α β : Type} {R : α → β → Prop}
theorem All2.len : ∀ {as : List α} {bs : List β}, All2 R as bs → as.length = bs.length
  | _, _, .nil => rfl
  | _, _, .cons h t => by rw [List.length_cons, List.length_cons, All2.len t]
theorem All2.append : ∀ {as as' : List α} {bs bs' : List β}, All2 R as bs → All2 R as' bs' → All2 R (as ++ as') (bs ++ bs')
  | _, _, _, _, .nil, h => h
  | _, _, _, _, .cons h t, k => .cons h (All2.append t k)
theorem All2.drop : ∀ (i : Nat) {as : List α} {bs : List β}, All2 R as bs → All2 R (as.drop i) (bs.drop i)
  | 0, _, _, h => h
  | i + 1, _, _, .nil => .nil
  | i + 1, _, _, .cons h t => All2.drop i t
theorem All2.last (i : Nat) {as : List α} {bs : List β} (h : All2 R as bs) : All2 R (lastN i as) (lastN i bs) := by
  unfold lastN
  rw [h.len]
  exact All2.drop _ h
theorem All2.snoc : ∀ {as : List α} {a : α} {bs : List β}, All2 R (as ++ [a]) bs → ∃ cs b, bs = cs ++ [b] ∧ All2 R as cs ∧ R a b
  | [], a, _, .cons h .nil => ⟨[], _, rfl, .nil, h⟩
  | b :: r, a, _, .cons h t => by
    obtain ⟨cs, x, e, h1, h2⟩ := All2.snoc (as := r) t
    exact ⟨_ :: cs, x, by rw [e] <;> rfl, .cons h h1, h2⟩
theorem All2.nil_of {bs : List β} (h : All2 R ([] : List α) bs) : bs = [] := by cases h; rfl
end
theorem rel_take {pool : List Str} {s t : MS} {a b : PM} (r : RelM pool s t) (h : PR pool a b) : RelM pool (takeM s a) (takeM t b) := by
  refine ⟨h, ?_, .nil, r.lim, r.l1, r.l2, ?_, ?_⟩
  · show All2 (PR pool) (lastN s.lim.toNat (s.dn ++ [s.m])) (lastN t.lim.toNat (t.dn ++ [t.m]))
    rw [← r.lim]
    exact (r.dn.append (.cons r.m .nil)).last _
  · exact lastN_len _ _
  · have := lastN_len s.lim.toNat (s.dn ++ [s.m])
    show (lastN s.lim.toNat (s.dn ++ [s.m])).length + 0 ≤ 100
    have := r.l2
    omega
theorem do_rel {pool : List Str} {s t : MS} {δ : Dd} (r : RelM pool s t) (p : DdP pool δ) : RelM pool (doM edM s δ).1 (doM edW t δ).1 ∧ (doM edM s δ).2 = (doM edW t δ).2 := by
  cases δ with
  | ed e =>
    have rq := rs_eq r.m.eq e
    by_cases c : rsE s.m e = .ok
    · have c' : rsE t.m e = .ok := rq ▸ c
      have e1 : doM edM s (.ed e) = (takeM s (edM s.m e), doneD) := if_pos c
      have e2 : doM edW t (.ed e) = (takeM t (edW t.m e), doneD) := if_pos c'
      rw [e1, e2]
      exact ⟨rel_take r ⟨eq_ed r.m.eq c, r.m.ga.ed p c, r.m.gb.edW p c'⟩, rfl⟩
    · have c' : ¬ rsE t.m e = .ok := fun z => c (rq.trans z)
      have e1 : doM edM s (.ed e) = (s, refD false false (decide (rsE s.m e = .kind))) := if_neg c
      have e2 : doM edW t (.ed e) = (t, refD false false (decide (rsE t.m e = .kind))) := if_neg c'
      rw [e1, e2, rq]
      exact ⟨r, rfl⟩
  | run es =>
    have h := runX_eq (es := es) (i := 0) r.m.eq r.m.ga r.m.gb p.2
    cases q1 : runX edM s.m es 0 with
    | inl a =>
      cases q2 : runX edW t.m es 0 with
      | inl b =>
        rw [q1, q2] at h
        have h' : a = b := h
        simp only [doM, q1, q2]
        exact ⟨r, by rw [h']⟩
      | inr b => rw [q1, q2] at h; exact h.elim
    | inr a =>
      cases q2 : runX edW t.m es 0 with
      | inl b => rw [q1, q2] at h; exact h.elim
      | inr b =>
        rw [q1, q2] at h
        have h' : EqM a b ∧ GP pool a ∧ GP pool b := h
        simp only [doM, q1, q2]
        refine ⟨?_, trivial⟩
        by_cases z : es = []
        · rw [if_pos z, if_pos z]; exact r
        · rw [if_neg z, if_neg z]; exact rel_take r ⟨h'.1, h'.2.1, h'.2.2⟩
  | undo =>
    rcases snoc_of s.dn with e | ⟨d0, x, e⟩
    · have e' : t.dn = [] := All2.nil_of (e ▸ r.dn)
      have q1 : doM edM s .undo = (s, refD false true false) := by simp [doM, e]
      have q2 : doM edW t .undo = (t, refD false true false) := by simp [doM, e']
      rw [q1, q2]
      exact ⟨r, rfl⟩
    · obtain ⟨c0, y, e', h1, h2⟩ := All2.snoc (e ▸ r.dn)
      have q1 : doM edM s .undo = (⟨x, d0, s.un ++ [s.m], s.lim⟩, doneD) := by simp [doM, e]
      have q2 : doM edW t .undo = (⟨y, c0, t.un ++ [t.m], t.lim⟩, doneD) := by simp [doM, e']
      rw [q1, q2]
      have l := r.dl
      have l' := r.du
      rw [e] at l l'
      simp only [List.length_append, List.length_cons, List.length_nil] at l l'
      exact ⟨⟨h2, h1, r.un.append (.cons r.m .nil), r.lim, r.l1, r.l2, by show d0.length ≤ s.lim.toNat; omega, by show d0.length + (s.un ++ [s.m]).length ≤ 100; rw [List.length_append]; show d0.length + (s.un.length + 1) ≤ 100; omega⟩, rfl⟩
  | redo =>
    rcases snoc_of s.un with e | ⟨d0, x, e⟩
    · have e' : t.un = [] := All2.nil_of (e ▸ r.un)
      have q1 : doM edM s .redo = (s, refD false true false) := by simp [doM, e]
      have q2 : doM edW t .redo = (t, refD false true false) := by simp [doM, e']
      rw [q1, q2]
      exact ⟨r, rfl⟩
    · obtain ⟨c0, y, e', h1, h2⟩ := All2.snoc (e ▸ r.un)
      have q1 : doM edM s .redo = (⟨x, lastN s.lim.toNat (s.dn ++ [s.m]), d0, s.lim⟩, doneD) := by simp [doM, e]
      have q2 : doM edW t .redo = (⟨y, lastN t.lim.toNat (t.dn ++ [t.m]), c0, t.lim⟩, doneD) := by simp [doM, e']
      rw [q1, q2]
      have l' := r.du
      rw [e] at l'
      simp only [List.length_append, List.length_cons, List.length_nil] at l'
      refine ⟨⟨h2, ?_, h1, r.lim, r.l1, r.l2, lastN_len _ _, ?_⟩, rfl⟩
      · show All2 (PR pool) (lastN s.lim.toNat (s.dn ++ [s.m])) (lastN t.lim.toNat (t.dn ++ [t.m]))
        rw [← r.lim]
        exact (r.dn.append (.cons r.m .nil)).last _
      · show (lastN s.lim.toNat (s.dn ++ [s.m])).length + d0.length ≤ 100
        unfold lastN
        rw [List.length_drop, List.length_append]
        show s.dn.length + 1 - (s.dn.length + 1 - s.lim.toNat) + d0.length ≤ 100
        omega
  | keep i =>
    by_cases c : 1 ≤ i ∧ i ≤ 100
    · have q1 : doM edM s (.keep i) = (⟨s.m, lastN i.toNat s.dn, s.un, i⟩, doneD) := if_pos c
      have q2 : doM edW t (.keep i) = (⟨t.m, lastN i.toNat t.dn, t.un, i⟩, doneD) := if_pos c
      rw [q1, q2]
      refine ⟨⟨r.m, r.dn.last _, r.un, rfl, c.1, c.2, lastN_len _ _, ?_⟩, rfl⟩
      show (lastN i.toNat s.dn).length + s.un.length ≤ 100
      unfold lastN
      rw [List.length_drop]
      have := r.du
      omega
    · have q1 : doM edM s (.keep i) = (s, refD false false true) := if_neg c
      have q2 : doM edW t (.keep i) = (t, refD false false true) := if_neg c
      rw [q1, q2]
      exact ⟨r, rfl⟩
theorem do_tn (ed : PM → Ed → PM) (s : MS) (δ : Dd) : tnD (doM ed s δ).2 = true ∧ (doM ed s δ).2.depth ≤ 2 := by
  have a : tnD doneD = true ∧ doneD.depth ≤ 2 := by decide +kernel
  have b : ∀ x y z, tnD (refD x y z) = true ∧ (refD x y z).depth ≤ 2 := by intro x y z; cases x <;> cases y <;> cases z <;> decide +kernel
  have c : ∀ i, tnD (failD i) = true ∧ (failD i).depth ≤ 2 := fun i => ⟨rfl, by show 1 ≤ 2; decide⟩
  cases δ with
  | ed e =>
    by_cases z : rsE s.m e = .ok
    · have q : doM ed s (.ed e) = (takeM s (ed s.m e), doneD) := if_pos z
      rw [q]; exact a
    · have q : doM ed s (.ed e) = (s, refD false false (decide (rsE s.m e = .kind))) := if_neg z
      rw [q]; exact b _ _ _
  | run es =>
    cases q : runX ed s.m es 0 with
    | inl i => simp only [doM, q]; exact c i
    | inr m => simp only [doM, q]; exact a
  | undo =>
    cases q : s.dn.getLast? with
    | none => simp only [doM, q]; exact b _ _ _
    | some x => simp only [doM, q]; exact a
  | redo =>
    cases q : s.un.getLast? with
    | none => simp only [doM, q]; exact b _ _ _
    | some x => simp only [doM, q]; exact a
  | keep i =>
    by_cases z : 1 ≤ i ∧ i ≤ 100
    · have q : doM ed s (.keep i) = (⟨s.m, lastN i.toNat s.dn, s.un, i⟩, doneD) := if_pos z
      rw [q]; exact a
    · have q : doM ed s (.keep i) = (s, refD false false true) := if_neg z
      rw [q]; exact b _ _ _
/-! ### texts in order: one way alone -/
theorem lt_irr (a : List Nat) : ¬ a < a := List.lt_irrefl a
theorem rising_pw : ∀ (p : Str) (l : List Str), risingS p l = true → (p :: l).Pairwise (fun a b => ¬ b.cps.toList < a.cps.toList)
  | p, [], _ => List.pairwise_singleton _ _
  | p, x :: r, h => by
    obtain ⟨h1, h2⟩ := Bool.and_eq_true_iff.mp (show (!ltCps x.cps.toList p.cps.toList && risingS x r) = true from h)
    have ih := rising_pw x r h2
    have hx : ¬ x.cps.toList < p.cps.toList := by
      intro z
      rw [ltCps_eq, decide_eq_true z] at h1
      cases h1
    refine List.pairwise_cons.mpr ⟨fun y hy => ?_, ih⟩
    rcases List.mem_cons.mp hy with rfl | hy
    · exact hx
    · have := (List.pairwise_cons.mp ih).1 y hy
      intro z
      exact hx (List.lt_of_le_of_lt (List.not_lt.mp this) z)
theorem sorted_pw {l : List Str} (h : sortedS l = true) : l.Pairwise (fun a b => ¬ b.cps.toList < a.cps.toList) := by
  cases l with
  | nil => exact List.Pairwise.nil
  | cons x r => exact rising_pw x r h
theorem str_ext {a b : Str} (h : a.cps.toList = b.cps.toList) : a = b := by
  cases a; cases b
  simp at h
  rw [h]
theorem sorted_one {xs ys : List Str} (h1 : sortedS xs = true) (h2 : sortedS ys = true) (p : xs.Perm ys) : xs = ys :=
  List.Perm.eq_of_pairwise (fun a b _ _ h h' => str_ext (List.le_antisymm (List.not_lt.mp h) (List.not_lt.mp h'))) (sorted_pw h1) (sorted_pw h2) p
end K9
namespace K9
open PySem PySem.Spec PyProof.Rows L2
/-! ### words of tactics -/
local macro_rules | `(tactic| walk_at "hp") => `(tactic| (first
  | assumption | exact upd_same
  | (refine Ch.at0 (H := ?hpH) ?hpc ?hph; (case hpc => assumption); (case hph => walk_at "hp"))
  | (refine Ch.tup (M := ?hpM) (H := ?hpH) ?hpc ?hph; (case hpc => assumption); (case hph => walk_at "hp"))
  | (refine Ch.at (M := ?hpM) (H := ?hpH) ?hpc ?hph ?hpn; (case hpc => assumption); (case hph => walk_at "hp"); (case hpn => walk_at "ni"))
  | fail "hp"))
local macro_rules | `(tactic| walk_at "ni") => `(tactic| (first | exact ni0 | assumption | (refine ni1 ?nia ?nib; (case nia => walk_at "nq"); (case nib => walk_at "ni")) | fail "ni"))
local macro_rules | `(tactic| walk_at "nq") => `(tactic| (first | assumption | exact Ne.symm (by assumption) | (refine ne_of_none (H := ?nqH) (o := ?nqo) ?nqa ?nqb; (case nqb => assumption); (case nqa => walk_at "hp")) | (refine Ne.symm (ne_of_none (H := ?nqH) (o := ?nqo) ?nqa ?nqb); (case nqb => assumption); (case nqa => walk_at "hp")) | fail "nq"))
local macro_rules | `(tactic| walk_at "sq") => `(tactic| (first
  | assumption | exact SqL.of (by assumption)
  | (refine Ch.sql (M := ?sqM) (H := ?sqH) ?sqc ?sqh ?sqn; (case sqc => assumption); (case sqh => walk_at "sq"); (case sqn => walk_at "ni"))
  | fail "sq"))
local macro_rules | `(tactic| walk_at "tq") => `(tactic| (first
  | assumption | exact SqT.of (by assumption)
  | (refine Ch.sqt (M := ?tqM) (H := ?tqH) ?tqc ?tqh; (case tqc => assumption); (case tqh => walk_at "tq"))
  | fail "tq"))
local macro_rules | `(tactic| walk_at "rd1") => `(tactic| (first
  | ((with_reducible refine te_var (v := ?rdw) ?rdv ?_); (case rdv => exact rfl))
  | (with_reducible (first
  | refine te_c ?_ | refine te_op ?_ | refine te_nil ?_ | refine te_cons ?_ | refine te_cb ?_ | refine te_callR ?_ | refine te_tup ?_ | refine te_lst ?_
  | refine ts_seq ?_ | refine ts_asg ?_ | refine tg_name ?_ | refine ts_ret ?_ | refine ts_retN ?_ | refine ts_if ?_ | refine ts_drop ?_ | refine ts_next ?_ | refine tg_sub ?_
  | refine nd_nx ?_ | refine nd_rt ?_ | refine nd_bk ?_ | refine nd_ct ?_
  | refine tt_test ?_ | refine tt_b ?_ | refine tt_and ?_ | refine tt_or ?_ | refine tt_not ?_ | refine blq ?_ | refine inq ?_ | refine iteT ?_ | refine iteF ?_
  | refine te_then ?_ | refine te_if ?_ | refine te_sl ?_ | refine te_part ?_ | refine te_chain ?_ | refine te_andV ?_ | refine te_orV ?_ | refine te_notV ?_ | refine te_un ?_
  | refine te_din ?_ | refine te_dni ?_ | refine te_dgt ?_ | refine ts_dpt ?_ | refine ts_for ?_ | refine ti_rng ?_ | refine ti_rng2 ?_ | refine ti_lst ?_ | refine ti_tup ?_ | refine ti_str ?_ | refine ti_key ?_ | refine strq ?_ | refine te_lc ?_ | refine te_dc ?_ | refine tt_yes ?_
  | refine r_addI ?_ | refine r_I0 ?_ | refine r_eqI ?_ | refine r_eqS ?_ | refine r_neI ?_ | refine r_neS ?_ | refine r_U ?_ | refine r_intI ?_ | refine r_intB ?_))
  | ((with_reducible refine r_ixL (xs := ?rdx) (v := ?rdw) ?rdh ?rde ?_); (case rdh => walk_at "sq"); (case rde => exact rfl))
  | ((with_reducible refine r_ixT (xs := ?rdx) (v := ?rdw) ?rdh ?rde ?_); (case rdh => walk_at "tq"); (case rde => exact rfl))
  | ((with_reducible refine r_lenL (xs := ?rdx) ?rdh ?_); (case rdh => walk_at "sq"))
  | ((with_reducible refine r_lenT (xs := ?rdx) ?rdh ?_); (case rdh => walk_at "tq"))
  | ((with_reducible refine r_lenD (kvs := ?rdx) ?rdh ?_); (case rdh => walk_at "hp"))
  | ((with_reducible refine r_set' (xs := ?rdx) (j := ?rdj) ?rdh ?rde ?_); (case rdh => walk_at "hp"); (case rde => exact rfl); (intro rH rc rh))
  | ((with_reducible refine newT ?rdc ?_); (case rdc => (simp; done)); (intro rp rH rn rc rh))
  | ((with_reducible refine newL ?rdc ?_); (case rdc => (simp; done)); (intro rp rH rn rc rh))
  | ((with_reducible refine te_dnw ?_); (intro rp rH rn rc rh))
  | ((with_reducible refine lisq (xs := ?rdx) ?rdh ?_); (case rdh => walk_at "sq"))
  | ((with_reducible refine tupq (xs := ?rdx) ?rdh ?_); (case rdh => walk_at "tq"))
  | ((with_reducible refine rngq ?rdc ?_); (case rdc => walk_at "sd"))
  | ((with_reducible refine r_I ?rdc ?_); (case rdc => walk_at "sd"))
  | ((with_reducible refine r_mulI ?rdc ?_); (case rdc => omega))
  | fail "rd"))
local macro_rules | `(tactic| walk_at "sd") => `(tactic| (first | (constructor <;> omega) | omega | decide | (refine ⟨?_, ?_, ?_⟩ <;> decide)))
local macro_rules | `(tactic| walk_at "rd") => `(tactic| repeat (walk_at "rd1"))
local macro_rules | `(tactic| walk_at "ch") => `(tactic| (first
  | assumption | exact Ch.refl | exact Ch.nil (by assumption)
  | (refine Ch.trans (H1 := ?chm) ?cha ?chb; (case chb => (first | assumption | exact Ch.nil (by assumption) | (refine Ch.mono (M := ?chl) ?chx ?chy; (case chx => assumption); (case chy => (intro _ chz; simp at chz ⊢; simp [chz]))))); (case cha => walk_at "ch"))
  | fail "ch"))
local macro_rules | `(tactic| walk_at "nx") => `(tactic| repeat (with_reducible (first | refine ts_next ?_ | refine nd_nx ?_)))
local macro_rules | `(tactic| walk_at "dm") => `(tactic| (first | assumption | (refine Dt.mono (M := ?dmM) (H := ?dmH) ?dmc ?dmh; (case dmc => assumption); (case dmh => walk_at "dm")) | fail "dm"))
local macro_rules | `(tactic| walk_at "dt") => `(tactic| (first | exact Dt.int _ | exact Dt.str _ | exact Dt.bl _ | exact Dt.non | walk_at "dm" | (refine Dt.tup (xs := ?dtx) ?dta ?dtb; (case dta => walk_at "tq"); (case dtb => walk_at "dts")) | fail "dt"))
local macro_rules | `(tactic| walk_at "dsm") => `(tactic| (first | assumption | (refine Dts.mono (M := ?dmM) (H := ?dmH) ?dmc ?dmh; (case dmc => assumption); (case dmh => walk_at "dsm")) | fail "dsm"))
local macro_rules | `(tactic| walk_at "dts") => `(tactic| (first | exact Dts.nil | walk_at "dsm" | (refine Dts.cons ?dtsa ?dtsb; (case dtsa => walk_at "dt"); (case dtsb => walk_at "dts")) | fail "dts"))
local macro_rules | `(tactic| walk_at "it") => `(tactic| (first | refine itT (by rfl) ?_ | refine itF (by rfl) ?_ | fail "it"))
local macro_rules | `(tactic| walk_at "if") => `(tactic| with_reducible (first | refine iteF ?_ | refine iteT ?_))
local macro_rules | `(tactic| walk_at "itk") => `(tactic| (first | (refine itT ?itk ?_; (case itk => decide +kernel)) | (refine itF ?itk ?_; (case itk => decide +kernel)) | fail "itk"))
/-! _law_stands, walked. -/
def PrpQ (C : Addr) (sp : Sp) (dvs : List V) (E : XK) (Q : VK) (x : V) (H1 : Hp) : Prop := ∃ a dx fs, x = .ref a ∧ H1 a = some (.ins C dx fs) ∧ sp (.ref a :: dvs) H1 Q E
theorem te_prp {C : Addr} {sp : Sp} {dvs : List V} {E : XK} {ta : TE} {σ : L2.St} {H : Hp} {Q : VK} (k : ta σ H fun x H1 => PrpQ C sp dvs E Q x H1) : tProp C sp dvs E ta σ H Q := k
theorem prpq {C : Addr} {sp : Sp} {dvs : List V} {E : XK} {Q : VK} {H1 : Hp} {a dx : Addr} {fs : List (Str × V)} (h : H1 a = some (.ins C dx fs)) (k : sp (.ref a :: dvs) H1 Q E) : PrpQ C sp dvs E Q (.ref a) H1 := ⟨a, dx, fs, rfl, h, k⟩
mutual
theorem pl_tn : ∀ {d : PyData}, plD d = true → tnD d = true
  | .int _, _ => rfl
  | .str _, _ => rfl
  | .tuple ds, h => by
    obtain ⟨h1, h2⟩ := Bool.and_eq_true_iff.mp (show (decide (ds.length ≤ 1000) && plDs ds) = true from h)
    have := pls_tn h2
    first
    | exact this
    | (show (decide (ds.length ≤ 1000) && tnDs ds) = true; rw [h1, this]; rfl)
    | (show (decide (ds.length ≤ 100000) && tnDs ds) = true; rw [this, decide_eq_true (by have := of_decide_eq_true h1; omega)]; rfl)
  | .none, h => by simp [plD] at h
  | .bool _, h => by simp [plD] at h
  | .list _, h => by simp [plD] at h
  | .dict _, h => by simp [plD] at h
theorem pls_tn : ∀ {ds : List PyData}, plDs ds = true → tnDs ds = true
  | [], _ => rfl
  | d :: ds, h => by
    obtain ⟨h1, h2⟩ := Bool.and_eq_true_iff.mp (show (plD d && plDs ds) = true from h)
    show (tnD d && tnDs ds) = true
    rw [pl_tn h1, pls_tn h2]; rfl
end
theorem dts_strs {K : PySem.W.Frag} {H : Hp} : ∀ (ys : List Str), Dts K H (ys.map V.str) (ys.map PyData.str)
  | [] => .nil
  | y :: r => .cons (.str y) (dts_strs r)
theorem tn_strs {ys : List Str} (h : ys.length ≤ 1000) : tnD (.tuple (ys.map PyData.str)) = true ∧ (PyData.tuple (ys.map PyData.str)).depth ≤ 1 := by
  have a : ∀ l : List Str, tnDs (l.map PyData.str) = true := fun l => by
    induction l with
    | nil => rfl
    | cons x r ih => show (tnD (.str x) && tnDs (r.map PyData.str)) = true; rw [ih]; rfl
  have b : ∀ l : List Str, PyData.depthAll (l.map PyData.str) = 0 := fun l => by
    induction l with
    | nil => rfl
    | cons x r ih => show max (PyData.depth (.str x)) (PyData.depthAll (r.map PyData.str)) = 0; rw [ih]; rfl
  refine ⟨?_, ?_⟩
  · first
    | exact a ys
    | (show (decide ((ys.map PyData.str).length ≤ 1000) && tnDs _) = true; rw [a, List.length_map, decide_eq_true h]; rfl)
    | (show (decide ((ys.map PyData.str).length ≤ 100000) && tnDs _) = true; rw [a, List.length_map, decide_eq_true (by omega)]; rfl)
  · show PyData.depthAll _ + 1 ≤ 1
    rw [b]; decide
theorem keys_perm {pool : List Str} {a b : PM} (r : PR pool a b) : (a.map (·.1)).Perm (b.map (·.1)) :=
  (List.perm_ext_iff_of_nodup r.ga.nd r.gb.nd).mpr fun z => by rw [mem_look, mem_look, r.eq.eq]
def spStands (K : PySem.W.Frag) : Sp := fun vs H Q _ => ∃ F G dk wa s t pool, vs = [.ref dk, .ref wa] ∧ DkM K H F dk s ∧ WoM K H G wa t ∧ RelM pool s t ∧ (∀ a ∈ F, a ∉ G) ∧ ∀ H', Ch [] H H' → Q (.bl true) H'
theorem pure_stands {K : PySem.W.Frag} {mg : Str → Option Value} (T : TT K mg) (vs : List V) (H : Hp) (Q : VK) (E : XK) (h : spStands K vs H Q E) :
    t__law_stands K (spSame K 7) (spNamesM K) (spLimitM K) (spUndoneM K) (spStepsM K) (spTermOf K) (spKindOf K) { nx := fun _ H' => Q .non H', rt := Q } (L2.start N__law_stands vs) H := by
  obtain ⟨F, G, dk, wa, s, t, pool, rfl, D, W, r, dj, k⟩ := h
  have D' := D
  obtain ⟨n, pp, dl, ul, dna, una, eF, ⟨⟨dx, ob⟩, _⟩, _⟩ := D'
  have W' := W
  obtain ⟨wp, wd, wu, wdn, wun, eG, A, hwp, hwd, hwu⟩ := W'
  have hwp' := hwp
  obtain ⟨⟨l, hl, he⟩, nd⟩ := hwp'
  have la := r.m.ga.len
  have lb := r.m.gb.len
  have wob := A.ob
  unfold t__law_stands
  walk_at "rd"
  refine te_prp ?_
  walk_at "rd"
  refine prpq ob ?_
  refine ⟨F, dk, s, rfl, D, by omega, fun ys p H1 hp hs c1 e1 => ?_⟩
  walk_at "rd"
  refine r_listD (.inl (c1.at0 hl)) fun l2 H2 n2 c2 e2 => ?_
  walk_at "rd"
  rw [he.keyV] at e2
  refine r_sortS (SqL.of e2) (by rw [List.length_map]; omega) fun zs l3 H3 hp3 hs3 n3 c3 e3 => ?_
  refine r_tupL (SqL.of e3) fun l4 H4 n4 c4 e4 => ?_
  walk_at "rd"
  have yz : ys = zs := sorted_one hs hs3 ((hp.trans (keys_perm r.m)).trans hp3.symm)
  subst yz
  have ly : ys.length ≤ 1000 := by have := hp.length_eq; rw [List.length_map] at this; omega
  have C4 : Ch [] H1 H4 := (c2.trans c3).trans c4
  refine ⟨.ref p, .ref l4, .tuple (ys.map PyData.str), rfl, .tup (SqT.of (C4.at0 e1)) (dts_strs ys), .tup (SqT.of e4) (dts_strs ys), (tn_strs ly).1, Nat.le_trans (tn_strs ly).2 (by decide), fun H5 c5 => ?_⟩
  have C5 : Ch [] H H5 := (c1.trans C4).trans c5
  walk_at "rd"
  refine itF (by rfl) ?_
  walk_at "nx"
  walk_at "rd"
  refine te_prp ?_
  walk_at "rd"
  refine prpq (C5.at0 ob) ⟨F, dk, s, rfl, D.at0 C5, ?_⟩
  walk_at "rd"
  refine te_prp ?_
  walk_at "rd"
  refine prpq (C5.at0 ob) ⟨F, dk, s, rfl, D.at0 C5, ?_⟩
  walk_at "rd"
  refine te_prp ?_
  walk_at "rd"
  refine prpq (C5.at0 ob) ⟨F, dk, s, rfl, D.at0 C5, ?_⟩
  walk_at "rd"
  rename_i q6 H6 n6 c6 e6
  have A6 := (A.at C5 (by simp) (by simp) (by simp)).at c6 (by simp) (by simp) (by simp)
  try (with_reducible refine r_ixL (SqL.of A6.ob) rfl ?_)
  walk_at "rd"
  try (with_reducible refine r_lenL (SqL.of A6.dls) ?_)
  walk_at "rd"
  try (with_reducible refine r_ixL (SqL.of A6.ob) rfl ?_)
  walk_at "rd"
  try (with_reducible refine r_lenL (SqL.of A6.uls) ?_)
  walk_at "rd"
  try (with_reducible refine r_ixL (SqL.of A6.ob) rfl ?_)
  walk_at "rd"
  rename_i q7 H7 n7 c7 e7
  have C7 : Ch [] H H7 := (C5.trans c6).trans c7
  have l1 : (wdn.map V.ref).length = s.dn.length := by rw [List.length_map, hwd.len, r.dn.len]
  have l2 : (wun.map V.ref).length = s.un.length := by rw [List.length_map, hwu.len, r.un.len]
  rw [l1, l2, ← r.lim] at e7
  refine ⟨.ref q6, .ref q7, .tuple [.int (s.dn.length : Int), .int (s.un.length : Int), .int s.lim], rfl, .tup (SqT.of (c7.at0 e6)) (.cons (.int _) (.cons (.int _) (.cons (.int _) .nil))), .tup (SqT.of e7) (.cons (.int _) (.cons (.int _) (.cons (.int _) .nil))), rfl, by show 1 ≤ 7; decide, fun H8 c8 => ?_⟩
  have C8 : Ch [] H H8 := C7.trans c8
  walk_at "rd"
  refine itF (by rfl) ?_
  walk_at "nx"
  refine ts_ret (te_cb (te_cons ?_))
  have hl8 := C8.at0 hl
  refine te_lock hl8 fun od => ?_
  have cl := Ch.lock (o := od) hl8
  have el : (upd H8 wp (.frz od (.dK l))) wp = some (.frz od (.dK l)) := upd_same
  generalize hL : upd H8 wp (.frz od (.dK l)) = HL at cl el ⊢
  have wpG : wp ∈ G := by rw [eG]; simp
  have DL : DkM K HL F dk s := (D.at0 C8).at cl fun a ha => by
    have := dj a ha
    intro z
    rw [List.mem_singleton.mp z] at this
    exact this wpG
  have heL := (he.mono C8).mono cl
  have dkw : dk ≠ wp := fun z => dj dk (by rw [eF]; simp) (by rw [z]; exact wpG)
  have obL := cl.at (C8.at0 ob) (by simp [dkw])
  have hlen := he.len
  walk_at "rd"
  refine keyq el ?_
  refine lcq walks_keys (fun D i ys H' => Ch [] HL H' ∧ ys = List.replicate i (V.bl true)) (fun D H2 _ c _ => ⟨c, rfl⟩) (fun D i ys H' h => h.1.at0 el) ?_ ?_
  · rintro D9 i x ys H' nD hi ⟨kx, vx, hkv, rfl⟩ ⟨c, rfl⟩ eD ly'
    obtain ⟨y, k', q, tv, d, ekv, em, hq', hd⟩ := (heL.mono c).get hkv
    cases ekv
    rw [show kV (Sum.inr y : Key) = V.str y from rfl]
    have lw : mlook t.m y = some (k', d) := mlook_at nd em
    have ls : mlook s.m y = some (k', d) := by rw [r.m.eq.eq]; exact lw
    have pq : PaQ K F dk s y H' E0 := ⟨DL.at0 c, fun z => by rw [ls] at z; cases z⟩
    refine tt_yes (iteT ?_)
    walk_at "rd"
    refine te_mth ?_
    walk_at "rd"
    refine mthq (c.at0 obL) (lk_meth n pp dl ul s.lim).2.2.2.1 ?_
    walk_at "rd"
    refine ⟨F, dk, s, y, rfl, pq, fun k2 d2 e2 => ?_⟩
    rw [ls] at e2
    cases e2
    walk_at "rd"
    refine te_mth ?_
    walk_at "rd"
    refine mthq (c.at0 obL) (lk_meth n pp dl ul s.lim).2.2.2.2.1 ?_
    walk_at "rd"
    refine ⟨F, dk, s, y, rfl, pq, fun k2 d2 tv2 e2 ht2 => ?_⟩
    rw [ls] at e2
    cases e2
    walk_at "rd"
    rename_i q10 H10 n10 c10 e10
    obtain ⟨q', tv', g1, g2, g3⟩ := (heL.mono c).look_yes lw
    refine dgtq (.inr ⟨od, c10.at0 (c.at0 el)⟩) g1 ?_
    walk_at "rd"
    have ge := r.m.gb.gm _ (List.mem_of_getElem? em)
    have dp := ge.ok.dp
    have dp' : d.depth ≤ 5 := dp
    refine ⟨.ref q10, .ref q', .tuple [.str k', d], rfl, .tup (SqT.of e10) (.cons (.str _) (.cons (ht2.mono c10) .nil)), .tup (c10.sqt g2) (.cons (.str _) (.cons (g3.mono c10) .nil)), ?_, ?_, fun H11 c11 => ?_⟩
    · exact pl_tn (d := .tuple [.str k', d]) (by
        show (decide (2 ≤ 1000) && (plD (.str k') && (plD d && true))) = true
        rw [kind_pl ge.kd, ge.ok.pl]; rfl)
    · show PyData.depthAll [.str k', d] + 1 ≤ 7
      show max 0 (max d.depth 0) + 1 ≤ 7
      omega
    · refine itemq (c11.at0 (c10.at0 eD)) ly' (by omega) fun H12 c12 e12 => ⟨Ch.fresh1 ((c.trans c10).trans c11) c12 nD, ?_⟩
      rw [List.replicate_succ']
  · rintro D9 ys H' nD ⟨c, rfl⟩ eD _
    refine ⟨c.at0 el, ?_⟩
    subst hL
    have e2' := c.at0 el
    have dw : D9 ≠ wp := fun q => by rw [q, upd_same] at nD; cases nD
    walk_at "rd"
    refine r_all (n := l.length) (SqL.of (by rw [upd_ne dw]; exact eD)) ?_
    walk_at "rd"
    exact k _ (C8.trans (Ch.unlock hl8 c))
/-! _law_walked, walked. -/
/-- a deed whose list of edits lies apart -/
def DeedX (K : PySem.W.Frag) (H : Hp) (M : List Addr) (v : V) (δ : Dd) : Prop := match δ with
  | .run es => ∃ a l evs, v = .ref a ∧ SqT K H a [.str (PySem.Str.ofString "run"), .ref l] ∧ H l = some (.lst evs) ∧ Dts K H evs (es.map Ed.dat) ∧ l ∉ M
  | .ed e => DeedAt K H v (.ed e)
  | .undo => DeedAt K H v .undo
  | .redo => DeedAt K H v .redo
  | .keep i => DeedAt K H v (.keep i)
section
variable {K : PySem.W.Frag} {H H' : Hp} {M M' : List Addr} {v : V} {δ : Dd}
theorem DeedX.to (h : DeedX K H M v δ) : DeedAt K H v δ := by
  cases δ with
  | run es => obtain ⟨a, l, evs, h1, h2, h3, h4, _⟩ := h; exact ⟨a, l, evs, h1, h2, h3, h4⟩
  | ed e => exact h
  | undo => exact h
  | redo => exact h
  | keep i => exact h
theorem DeedX.at (h : DeedX K H M v δ) (c : Ch M H H') (s : ∀ a ∈ M', a ∈ M ∨ H a = none) : DeedX K H' M' v δ := by
  cases δ with
  | run es =>
    obtain ⟨a, l, evs, h1, h2, h3, h4, h5⟩ := h
    refine ⟨a, l, evs, h1, c.sqt h2, c.at h3 h5, h4.mono c, fun z => ?_⟩
    rcases s l z with q | q
    · exact h5 q
    · rw [h3] at q; cases q
  | ed e => exact Dt.mono c h
  | undo => obtain ⟨a, h1, h2⟩ := h; exact ⟨a, h1, c.sqt h2⟩
  | redo => obtain ⟨a, h1, h2⟩ := h; exact ⟨a, h1, c.sqt h2⟩
  | keep i => obtain ⟨a, h1, h2⟩ := h; exact ⟨a, h1, c.sqt h2⟩
theorem DeedX.sub (h : DeedX K H M v δ) (s : ∀ a ∈ M', a ∈ M) : DeedX K H M' v δ := h.at Ch.refl fun a ha => .inl (s a ha)
end
structure Both (K : PySem.W.Frag) (H : Hp) (F G : List Addr) (dk wa : Addr) (s t : MS) (pool : List Str) : Prop where
  D : DkM K H F dk s
  W : WoM K H G wa t
  r : RelM pool s t
  dj : ∀ a ∈ F, a ∉ G
def spWalked (K : PySem.W.Frag) : Sp := fun vs H Q _ => ∃ F G dk wa s t pool q ws δs, vs = [.ref dk, .ref wa, .ref q] ∧ Both K H F G dk wa s t pool ∧ H q = some (.lst ws) ∧ q ∉ F ++ G ∧ ws.length ≤ 1000 ∧ All2 (fun v δ => DeedX K H (F ++ G) v δ ∧ DdP pool δ) ws δs ∧
  ∀ F' G' s' t' H', Both K H' F' G' dk wa s' t' pool → Ch (F ++ G) H H' → (∀ a ∈ F', a ∈ F ∨ H a = none) → (∀ a ∈ G', a ∈ G ∨ H a = none) → Q (.bl true) H'
theorem All2.get {α β : Type} {R : α → β → Prop} : ∀ {as : List α} {bs : List β} {i : Nat} {a : α}, All2 R as bs → as[i]? = some a → ∃ b, bs[i]? = some b ∧ R a b
  | _, _, _, _, .nil, h => by simp at h
  | _, _, 0, _, .cons h t, e => by simp at e; subst e; exact ⟨_, rfl, h⟩
  | _, _, i + 1, _, .cons h t, e => by
    obtain ⟨b, h1, h2⟩ := All2.get (i := i) t (by simpa using e)
    exact ⟨b, by simpa using h1, h2⟩
theorem pure_walked {K : PySem.W.Frag} (vs : List V) (H : Hp) (Q : VK) (E : XK) (h : spWalked K vs H Q E) : t__law_walked K (spDue K) (spSame K 7) (spTold K) (spStands K) { nx := fun _ H' => Q .non H', rt := Q } (L2.start N__law_walked vs) H := by
  obtain ⟨F, G, dk, wa, s, t, pool, q, ws, δs, rfl, B, hq, nq, lw, hd, k⟩ := h
  unfold t__law_walked
  walk_at "rd"
  refine forq walks_lst (fun i σ H' => ∃ F' G' s' t' v3 v4, σ = [some (.ref dk), some (.ref wa), some (.ref q), v3, v4] ∧ Both K H' F' G' dk wa s' t' pool ∧ Ch (F ++ G) H H' ∧ (∀ a ∈ F', a ∈ F ∨ H a = none) ∧ (∀ a ∈ G', a ∈ G ∨ H a = none)) ?_ (fun i σ H' ⟨_, _, _, _, _, _, _, _, c, _⟩ => SqL.of (c.at hq nq)) ?_ ?_
  · exact ⟨F, G, s, t, _, _, rfl, B, Ch.refl, fun a h => .inl h, fun a h => .inl h⟩
  · rintro i x σ H' hi hx ⟨F', G', s', t', v3, v4, rfl, B', c, eF, eG⟩
    obtain ⟨δ, hδ, hX, hP⟩ := hd.get hx
    have ext : ∀ a ∈ F' ++ G', a ∈ F ++ G ∨ H a = none := fun a ha => by
      rcases List.mem_append.mp ha with h | h
      · exact (eF a h).imp (fun z => List.mem_append_left _ z) id
      · exact (eG a h).imp (fun z => List.mem_append_right _ z) id
    have X' : DeedX K H' (F' ++ G') x δ := hX.at c ext
    have lG : ∀ a ∈ G', H' a ≠ none := B'.W.live
    have lF : ∀ a ∈ F', H' a ≠ none := B'.D.live
    walk_at "rd"
    refine ⟨G', wa, t', x, δ, pool, rfl, B'.W, X'.to, hP, B'.r.m.gb, by rw [← B'.r.dn.len, ← B'.r.un.len]; exact B'.r.du, by rw [← B'.r.dn.len, ← B'.r.lim]; exact B'.r.dl, fun u1 G1 H1 W1 a1 hu1 => ?_⟩
    have D1 : DkM K H1 F' dk s' := B'.D.at a1.ch B'.dj
    have X1 : DeedAt K H1 x δ := (X'.sub (M' := G') fun a h => List.mem_append_right _ h).at a1.ch (M' := []) (fun a h => by simp at h) |>.to
    walk_at "rd"
    refine ⟨F', dk, s', x, δ, pool, rfl, D1, X1, hP, B'.r.m.ga, B'.r.du, fun u2 H2 F2 D2 a2 hu2 => ?_⟩
    have djG1 : ∀ a ∈ G1, a ∉ F' := fun a ha z => by
      rcases a1.ext a ha with h | h
      · exact B'.dj a z h
      · exact lF a z h
    have W2 : WoM K H2 G1 wa (doM edW t' δ).1 := W1.at a2.ch djG1
    have dj2 : ∀ a ∈ F2, a ∉ G1 := fun a ha z => by
      rcases a2.ext a ha with h | h
      · exact djG1 a z h
      · exact W1.live a z h
    obtain ⟨r2, e2⟩ := do_rel B'.r hP
    have C2 : Ch (F' ++ G') H' H2 := (a1.ch.mono fun a h => List.mem_append_right _ h).trans (a2.ch.mono fun a h => List.mem_append_left _ h)
    have C02 : Ch (F ++ G) H H2 := by
      refine ⟨fun a o e nM => C2.keep a o (c.keep a o e nM) (nM.imp (fun z y => ?_) id), fun a e => c.dom a (C2.dom a e)⟩
      rcases ext a y with h | h
      · exact z h
      · rw [e] at h; cases h
    walk_at "rd"
    refine ⟨u2, u1, (doM edM s' δ).2, rfl, hu2, ?_, (do_tn edM s' δ).1, Nat.le_trans (do_tn edM s' δ).2 (by decide), fun H3 c3 => ?_⟩
    · rw [e2]
      exact Dt.mono a2.ch hu1
    walk_at "rd"
    refine itF (by rfl) ?_
    walk_at "rd"
    refine ⟨F2, G1, dk, wa, _, _, pool, rfl, D2.at0 c3, W2.at0 c3, r2, dj2, fun H4 c4 => ?_⟩
    walk_at "rd"
    refine itF (by rfl) ?_
    walk_at "nx"
    refine ⟨F2, G1, _, _, _, _, rfl, ⟨(D2.at0 c3).at0 c4, (W2.at0 c3).at0 c4, r2, dj2⟩, (C02.step c3).step c4, fun a ha => ?_, fun a ha => ?_⟩
    · rcases a2.ext a ha with h | h
      · exact eF a h
      · exact .inr (c.dom a (a1.ch.dom a h))
    · rcases a1.ext a ha with h | h
      · exact eG a h
      · exact .inr (c.dom a h)
  · rintro σ H' ⟨F', G', s', t', v3, v4, rfl, B', c, eF, eG⟩
    walk_at "rd"
    exact k F' G' s' t' H' B' c eF eG
/-! Words that are drawn. -/
abbrev sABC : Str := PySem.Str.ofString "abcdefghijklmnopqrstuvwxyz"
theorem abc_len : sABC.cps.toList.length = 26 := by decide +kernel
theorem abc_letters : ∀ c ∈ sABC.cps.toList, c ∈ c_LETTERS_v.cps.toList := by decide +kernel
def isSign (z : Str) : Prop := ∃ c, c ∈ sABC.cps.toList ∧ z = ⟨#[c]⟩
theorem sign_len {z : Str} (h : isSign z) : z.length = 1 := by obtain ⟨c, _, rfl⟩ := h; rfl
theorem signs_sum : ∀ {ys : List Str}, (∀ y ∈ ys, isSign y) → (ys.map (·.length)).sum = ys.length
  | [], _ => rfl
  | y :: r, h => by
    rw [List.map_cons, List.sum_cons, signs_sum fun z hz => h z (List.mem_cons_of_mem _ hz), sign_len (h y List.mem_cons_self), List.length_cons]
    omega
/-- the text of some signs -/
theorem join_word {ys : List Str} {z : Str} (h : ∀ y ∈ ys, isSign y) (e : z = Txt.join sEmp ys) (hl : z.length ≤ (ys.map (·.length)).sum + ys.length * sEmp.length) : z.length ≤ ys.length ∧ (∀ c ∈ z.cps.toList, c ∈ c_LETTERS_v.cps.toList) ∧ (ys ≠ [] → z ≠ sEmp) := by
  rw [TL.join_eq] at e
  have l0 : sEmp.length = 0 := by decide +kernel
  rw [signs_sum h, l0, Nat.mul_zero, Nat.add_zero] at hl
  have e0 : sEmp.cps.toList = [] := by decide +kernel
  refine ⟨hl, fun c hc => ?_, fun hy q => ?_⟩
  · rw [e] at hc
    rcases (mem_join sEmp c ys).mp hc with ⟨t, ht, hct⟩ | ⟨_, h2⟩
    · obtain ⟨d, hd, rfl⟩ := h t ht
      have : c = d := by simpa using hct
      rw [this]
      exact abc_letters d hd
    · rw [e0] at h2; simp at h2
  · obtain ⟨y, r, rfl⟩ := List.exists_cons_of_ne_nil hy
    obtain ⟨d, hd, hyd⟩ := h y List.mem_cons_self
    have : d ∈ (Str.join sEmp (y :: r)).cps.toList := (mem_join sEmp d (y :: r)).mpr (.inl ⟨y, List.mem_cons_self, by rw [hyd]; simp⟩)
    rw [← e, q, e0] at this
    simp at this
theorem word_of {z : Str} (h1 : z ≠ sEmp) (h2 : z.length ≤ 12) (h3 : ∀ c ∈ z.cps.toList, c ∈ c_LETTERS_v.cps.toList) : isWord z = true := by
  unfold isWord
  rw [Bool.and_eq_true, Bool.and_eq_true]
  refine ⟨?_, decide_eq_true h2, List.all_eq_true.mpr fun c hc => decide_eq_true (h3 c hc)⟩
  rw [decide_eq_false h1]; rfl
/-- one sign drawn -/
theorem draw_sign {K : PySem.W.Frag} {sa la : Addr} {σ : L2.St} {i : Nat} {H : Hp} {Q : VK} (h0 : σ[0]? = some (some (.ref sa))) (hi : σ[i]? = some (some (.str sABC))) (S : StA K H sa la) (k : ∀ z H', isSign z → StA K H' sa la → Ch [sa] H H' → Q (.str z) H') :
    (tOp (rIx K) (tVar i) (tCallR (spPick K) (fun _ => E0) (tCons (tVar 0) (tCons (tC (.int 26)) tNil)))) σ H Q := by
  refine te_op (te_var hi (te_callR (te_cons (te_var h0 (te_cons (te_c (te_nil ?_)))))))
  refine ⟨sa, la, 26, rfl, by decide, by decide, S, fun r H' r0 r1 S' c => ?_⟩
  obtain ⟨j, rfl⟩ := Int.eq_ofNat_of_zero_le r0
  have hj : j < sABC.cps.toList.length := by rw [abc_len]; omega
  have e : sABC.cps.toList[j]? = some sABC.cps.toList[j] := List.getElem?_eq_getElem hj
  exact r_ixS (by decide +kernel) (atI_nat e) (k _ H' ⟨_, List.getElem_mem hj, rfl⟩ S' c)
/-- ''.join([letters[pick(26)] for y in range(size)]) -/
theorem draw_word {K : PySem.W.Frag} {sa la : Addr} {σ : L2.St} {i j n : Nat} {H : Hp} {Q : VK} (h0 : σ[0]? = some (some (.ref sa))) (hi : σ[i]? = some (some (.str sABC))) (hij : i ≠ j) (h0j : j ≠ 0) (S : StA K H sa la) (hn : n ≤ 12)
    (k : ∀ z H', z.length ≤ n → (∀ c ∈ z.cps.toList, c ∈ c_LETTERS_v.cps.toList) → (0 < n → z ≠ sEmp) → StA K H' sa la → Ch [sa] H H' → Q (.str z) H') :
    LcQ (Itr 0 n) (gName j) tYes (tOp (rIx K) (tVar i) (tCallR (spPick K) (fun _ => E0) (tCons (tVar 0) (tCons (tC (.int 26)) tNil)))) [j] σ (fun x H1 => rJoin K (.str sEmp) [x] H1 Q) H := by
  have g0 : ∀ x, ((wipe σ [j]).set j (some x))[0]? = some (some (.ref sa)) := fun x => by
    rw [List.getElem?_set_ne h0j]
    show ((σ.set j none))[0]? = _
    rw [List.getElem?_set_ne h0j]
    exact h0
  have gi : ∀ x, ((wipe σ [j]).set j (some x))[i]? = some (some (.str sABC)) := fun x => by
    rw [List.getElem?_set_ne (Ne.symm hij)]
    show ((σ.set j none))[i]? = _
    rw [List.getElem?_set_ne (Ne.symm hij)]
    exact hi
  refine lcq walks_rng (fun D m ys H' => (∃ zs : List Str, ys = zs.map V.str ∧ zs.length = m ∧ ∀ z ∈ zs, isSign z) ∧ StA K H' sa la ∧ Ch [sa] H H') (fun D H2 _ c _ => ⟨⟨[], rfl, rfl, by simp⟩, ?_, c.nil⟩) (fun _ _ _ _ _ => trivial) ?_ ?_
  · obtain ⟨ne, seed, idx, rst, ns, e1, e2, r⟩ := S
    exact ⟨ne, seed, idx, rst, ns, c.at0 e1, c.at0 e2, r⟩
  · rintro D m x ys H' nD hm hx ⟨⟨zs, rfl, lz, hz⟩, S', c⟩ eD hl
    refine tt_yes (iteT (draw_sign (g0 x) (gi x) S' fun z H2 sz S2 c2 => ?_))
    have nDs : D ≠ sa := fun q => by
      obtain ⟨_, _, _, _, _, e1, _⟩ := S
      rw [q, e1] at nD; cases nD
    refine itemq (c2.at eD (by simp [nDs])) hl (by omega) fun H5 c5 e5 => ⟨⟨zs ++ [z], by rw [List.map_append]; rfl, by simp [lz], fun y hy => ?_⟩, ?_, ?_⟩
    · rcases List.mem_append.mp hy with h | h
      · exact hz y h
      · rw [List.mem_singleton.mp h]; exact sz
    · obtain ⟨ne, seed, idx, rst, ns, e1, e2, r⟩ := S2
      have nDl : D ≠ la := fun q => by
        obtain ⟨_, _, _, _, _, _, e2', _⟩ := S
        rw [q, e2'] at nD; cases nD
      exact ⟨ne, seed, idx, rst, ns, c5.at e1 (by simp [nDs.symm]), c5.at e2 (by simp [nDl.symm]), r⟩
    · exact Ch.fresh1 (c.trans c2) c5 nD
  · rintro D ys H' nD ⟨⟨zs, rfl, lz, hz⟩, S', c⟩ eD _
    refine r_join (SqL.of eD) ?_ fun z hl e => ?_
    · rw [signs_sum hz]
      have : sEmp.length = 0 := by decide +kernel
      rw [this]; omega
    · obtain ⟨a, b, d⟩ := join_word hz e hl
      exact k z H' (by omega) b (fun h => d fun q => by rw [q] at lz; simp at lz; omega) S' c
end K9
namespace K9
open PySem PySem.Spec PyProof.Rows L2
/-! ### words of tactics -/
local macro_rules | `(tactic| walk_at "hp") => `(tactic| (first
  | assumption | exact upd_same
  | (refine Ch.at0 (H := ?hpH) ?hpc ?hph; (case hpc => assumption); (case hph => walk_at "hp"))
  | (refine Ch.tup (M := ?hpM) (H := ?hpH) ?hpc ?hph; (case hpc => assumption); (case hph => walk_at "hp"))
  | (refine Ch.at (M := ?hpM) (H := ?hpH) ?hpc ?hph ?hpn; (case hpc => assumption); (case hph => walk_at "hp"); (case hpn => walk_at "ni"))
  | fail "hp"))
local macro_rules | `(tactic| walk_at "ni") => `(tactic| (first | exact ni0 | assumption | (refine ni1 ?nia ?nib; (case nia => walk_at "nq"); (case nib => walk_at "ni")) | fail "ni"))
local macro_rules | `(tactic| walk_at "nq") => `(tactic| (first | assumption | exact Ne.symm (by assumption) | (refine ne_of_none (H := ?nqH) (o := ?nqo) ?nqa ?nqb; (case nqb => assumption); (case nqa => walk_at "hp")) | (refine Ne.symm (ne_of_none (H := ?nqH) (o := ?nqo) ?nqa ?nqb); (case nqb => assumption); (case nqa => walk_at "hp")) | fail "nq"))
local macro_rules | `(tactic| walk_at "sq") => `(tactic| (first
  | assumption | exact SqL.of (by assumption)
  | (refine Ch.sql (M := ?sqM) (H := ?sqH) ?sqc ?sqh ?sqn; (case sqc => assumption); (case sqh => walk_at "sq"); (case sqn => walk_at "ni"))
  | fail "sq"))
local macro_rules | `(tactic| walk_at "tq") => `(tactic| (first
  | assumption | exact SqT.of (by assumption)
  | (refine Ch.sqt (M := ?tqM) (H := ?tqH) ?tqc ?tqh; (case tqc => assumption); (case tqh => walk_at "tq"))
  | fail "tq"))
local macro_rules | `(tactic| walk_at "rd1") => `(tactic| (first
  | ((with_reducible refine te_var (v := ?rdw) ?rdv ?_); (case rdv => exact rfl))
  | (with_reducible (first
  | refine te_c ?_ | refine te_op ?_ | refine te_nil ?_ | refine te_cons ?_ | refine te_cb ?_ | refine te_callR ?_ | refine te_tup ?_ | refine te_lst ?_
  | refine ts_seq ?_ | refine ts_asg ?_ | refine tg_name ?_ | refine ts_ret ?_ | refine ts_retN ?_ | refine ts_if ?_ | refine ts_drop ?_ | refine ts_next ?_ | refine tg_sub ?_
  | refine nd_nx ?_ | refine nd_rt ?_ | refine nd_bk ?_ | refine nd_ct ?_
  | refine tt_test ?_ | refine tt_b ?_ | refine tt_and ?_ | refine tt_or ?_ | refine tt_not ?_ | refine blq ?_ | refine inq ?_ | refine iteT ?_ | refine iteF ?_
  | refine te_then ?_ | refine te_if ?_ | refine te_sl ?_ | refine te_part ?_ | refine te_chain ?_ | refine te_andV ?_ | refine te_orV ?_ | refine te_notV ?_ | refine te_un ?_
  | refine te_din ?_ | refine te_dni ?_ | refine te_dgt ?_ | refine ts_dpt ?_ | refine ts_for ?_ | refine ti_rng ?_ | refine ti_rng2 ?_ | refine ti_lst ?_ | refine ti_tup ?_ | refine ti_str ?_ | refine ti_key ?_ | refine strq ?_ | refine te_lc ?_ | refine te_dc ?_ | refine tt_yes ?_
  | refine r_addI ?_ | refine r_I0 ?_ | refine r_eqI ?_ | refine r_eqS ?_ | refine r_neI ?_ | refine r_neS ?_ | refine r_U ?_ | refine r_intI ?_ | refine r_intB ?_))
  | ((with_reducible refine r_ixL (xs := ?rdx) (v := ?rdw) ?rdh ?rde ?_); (case rdh => walk_at "sq"); (case rde => exact rfl))
  | ((with_reducible refine r_ixT (xs := ?rdx) (v := ?rdw) ?rdh ?rde ?_); (case rdh => walk_at "tq"); (case rde => exact rfl))
  | ((with_reducible refine r_lenL (xs := ?rdx) ?rdh ?_); (case rdh => walk_at "sq"))
  | ((with_reducible refine r_lenT (xs := ?rdx) ?rdh ?_); (case rdh => walk_at "tq"))
  | ((with_reducible refine r_lenD (kvs := ?rdx) ?rdh ?_); (case rdh => walk_at "hp"))
  | ((with_reducible refine r_set' (xs := ?rdx) (j := ?rdj) ?rdh ?rde ?_); (case rdh => walk_at "hp"); (case rde => exact rfl); (intro rH rc rh))
  | ((with_reducible refine newT ?rdc ?_); (case rdc => (simp; done)); (intro rp rH rn rc rh))
  | ((with_reducible refine newL ?rdc ?_); (case rdc => (simp; done)); (intro rp rH rn rc rh))
  | ((with_reducible refine te_dnw ?_); (intro rp rH rn rc rh))
  | ((with_reducible refine lisq (xs := ?rdx) ?rdh ?_); (case rdh => walk_at "sq"))
  | ((with_reducible refine tupq (xs := ?rdx) ?rdh ?_); (case rdh => walk_at "tq"))
  | ((with_reducible refine rngq ?rdc ?_); (case rdc => walk_at "sd"))
  | ((with_reducible refine r_I ?rdc ?_); (case rdc => walk_at "sd"))
  | ((with_reducible refine r_mulI ?rdc ?_); (case rdc => omega))
  | fail "rd"))
local macro_rules | `(tactic| walk_at "sd") => `(tactic| (first | (constructor <;> omega) | omega | decide | (refine ⟨?_, ?_, ?_⟩ <;> decide)))
local macro_rules | `(tactic| walk_at "rd") => `(tactic| repeat (walk_at "rd1"))
local macro_rules | `(tactic| walk_at "ch") => `(tactic| (first
  | assumption | exact Ch.refl | exact Ch.nil (by assumption)
  | (refine Ch.trans (H1 := ?chm) ?cha ?chb; (case chb => (first | assumption | exact Ch.nil (by assumption) | (refine Ch.mono (M := ?chl) ?chx ?chy; (case chx => assumption); (case chy => (intro _ chz; simp at chz ⊢; simp [chz]))))); (case cha => walk_at "ch"))
  | fail "ch"))
local macro_rules | `(tactic| walk_at "nx") => `(tactic| repeat (with_reducible (first | refine ts_next ?_ | refine nd_nx ?_)))
local macro_rules | `(tactic| walk_at "dm") => `(tactic| (first | assumption | (refine Dt.mono (M := ?dmM) (H := ?dmH) ?dmc ?dmh; (case dmc => assumption); (case dmh => walk_at "dm")) | fail "dm"))
local macro_rules | `(tactic| walk_at "dt") => `(tactic| (first | exact Dt.int _ | exact Dt.str _ | exact Dt.bl _ | exact Dt.non | walk_at "dm" | (refine Dt.tup (xs := ?dtx) ?dta ?dtb; (case dta => walk_at "tq"); (case dtb => walk_at "dts")) | fail "dt"))
local macro_rules | `(tactic| walk_at "dsm") => `(tactic| (first | assumption | (refine Dts.mono (M := ?dmM) (H := ?dmH) ?dmc ?dmh; (case dmc => assumption); (case dmh => walk_at "dsm")) | fail "dsm"))
local macro_rules | `(tactic| walk_at "dts") => `(tactic| (first | exact Dts.nil | walk_at "dsm" | (refine Dts.cons ?dtsa ?dtsb; (case dtsa => walk_at "dt"); (case dtsb => walk_at "dts")) | fail "dts"))
local macro_rules | `(tactic| walk_at "it") => `(tactic| (first | refine itT (by rfl) ?_ | refine itF (by rfl) ?_ | fail "it"))
local macro_rules | `(tactic| walk_at "if") => `(tactic| with_reducible (first | refine iteF ?_ | refine iteT ?_))
local macro_rules | `(tactic| walk_at "itk") => `(tactic| (first | (refine itT ?itk ?_; (case itk => decide +kernel)) | (refine itF ?itk ?_; (case itk => decide +kernel)) | fail "itk"))
local macro_rules | `(tactic| walk_at "rd1") => `(tactic| (first
  | (with_reducible (first | refine ts_fld ?_ | refine te_fld ?_ | refine te_app ?_ | refine te_pop ?_))
  | ((with_reducible refine' gt_papers ?rdt ?rdh ?rdk); (case rdt => assumption); (case rdh => walk_at "hp"))
  | ((with_reducible refine' gt_done ?rdt ?rdh ?rdk); (case rdt => assumption); (case rdh => walk_at "hp"))
  | ((with_reducible refine' gt_undone ?rdt ?rdh ?rdk); (case rdt => assumption); (case rdh => walk_at "hp"))
  | ((with_reducible refine' gt_limit ?rdt ?rdh ?rdk); (case rdt => assumption); (case rdh => walk_at "hp"))
  | ((with_reducible refine' st_papers ?rdt ?rdh ?rdk); (case rdt => assumption); (case rdh => walk_at "hp"); (intro rH rc rh))
  | ((with_reducible refine' st_done ?rdt ?rdh ?rdk); (case rdt => assumption); (case rdh => walk_at "hp"); (intro rH rc rh))
  | ((with_reducible refine' st_undone ?rdt ?rdh ?rdk); (case rdt => assumption); (case rdh => walk_at "hp"); (intro rH rc rh))
  | ((with_reducible refine' st_limit ?rdt ?rdh ?rdk); (case rdt => assumption); (case rdh => walk_at "hp"); (intro rH rc rh))
  | fail "rdD"))
/-! Names and pools that are drawn. -/
section
variable {K : PySem.W.Frag} {H H' : Hp} {M : List Addr} {sa la p : Addr}
theorem StA.at (S : StA K H sa la) (c : Ch M H H') (n1 : sa ∉ M) (n2 : la ∉ M) : StA K H' sa la := by
  obtain ⟨ne, seed, idx, rst, ns, e1, e2, r⟩ := S
  exact ⟨ne, seed, idx, rst, ns, c.at e1 n1, c.at e2 n2, r⟩
theorem StA.at0 (S : StA K H sa la) (c : Ch [] H H') : StA K H' sa la := S.at c (by simp) (by simp)
theorem StA.sne (S : StA K H sa la) (h : H p = none) : p ≠ sa ∧ p ≠ la := by
  obtain ⟨ne, seed, idx, rst, ns, e1, e2, r⟩ := S
  refine ⟨fun z => ?_, fun z => ?_⟩
  · rw [z, e1] at h; cases h
  · rw [z, e2] at h; cases h
theorem pickq {n : Int} {Q : VK} {E : XK} (S : StA K H sa la) (h1 : 1 ≤ n) (h2 : n ≤ 1000000000) (k : ∀ r H', 0 ≤ r → r < n → StA K H' sa la → Ch [sa] H H' → Q (.int r) H') : spPick K [.ref sa, .int n] H Q E := ⟨sa, la, n, rfl, h1, h2, S, k⟩
end
theorem atI_mem {α : Type} {xs : List α} {r : Int} (h0 : 0 ≤ r) (h1 : r < (xs.length : Int)) : ∃ v, atI xs r = some v ∧ v ∈ xs := by
  obtain ⟨j, rfl⟩ := Int.eq_ofNat_of_zero_le h0
  have hj : j < xs.length := by omega
  exact ⟨xs[j], atI_nat (List.getElem?_eq_getElem hj), List.getElem_mem hj⟩
theorem flat_strs : ∀ ns : List Str, (ns.map V.str).all flatV = true
  | [] => rfl
  | _ :: r => by rw [List.map_cons, List.all_cons, flat_strs r]; rfl
def NamesPost (K : PySem.W.Frag) (H : Hp) (sa la : Addr) (Q : VK) : Prop := ∀ l (ns : List Str) H', H l = none → H' l = some (.lst (ns.map V.str)) → (∀ z ∈ ns, isWord z = true) → 1 ≤ ns.length → ns.length ≤ 7 → StA K H' sa la → Ch [sa] H H' → Q (.ref l) H'
def spNames (K : PySem.W.Frag) : Sp := fun vs H Q _ => ∃ sa la many, vs = [.ref sa, .int many] ∧ 1 ≤ many ∧ many ≤ 7 ∧ StA K H sa la ∧ NamesPost K H sa la Q
theorem pure_names_ {K : PySem.W.Frag} (vs : List V) (H : Hp) (Q : VK) (E : XK) (h : spNames K vs H Q E) : t__law_names K (spPick K) { nx := fun _ H' => Q .non H', rt := Q } (L2.start N__law_names vs) H := by
  obtain ⟨sa, la, many, rfl, m1, m7, S, k⟩ := h
  unfold t__law_names
  walk_at "rd"
  rename_i l H1 n1 c1 e1
  obtain ⟨nls, nll⟩ := S.sne n1
  refine forq walks_rng (fun i σ H' => ∃ (ns : List Str) (v4 v5 v6 v7 : Option V), σ = [some (.ref sa), some (.int many), some (.str sABC), some (.ref l), v4, v5, v6, v7] ∧ H' l = some (.lst (ns.map V.str)) ∧ (∀ z ∈ ns, isWord z = true) ∧ (1 ≤ i → 1 ≤ ns.length) ∧ ns.length ≤ i ∧ StA K H' sa la ∧ Ch [sa] H H') ?_ (fun _ _ _ _ => trivial) ?_ ?_
  · exact ⟨[], _, _, _, _, rfl, e1, by simp, fun z => absurd z (by simp), Nat.le_refl _, S.at0 c1, c1.nil⟩
  · rintro i x σ H' hi hx ⟨ns, v4, v5, v6, v7, rfl, el, hw, h1, hn, S', c⟩
    walk_at "rd"
    rename_i l2 H2 n2 c2 e2
    refine pickq (S'.at0 c2) (by decide) (by decide) fun r H3 r0 r1 S3 c3 => ?_
    obtain ⟨v, hv, hm⟩ := atI_mem (xs := [V.int 1, .int 1, .int 2, .int 12]) r0 r1
    have nl2 := (S'.sne n2).1
    refine r_ixL (SqL.of (c3.at e2 (by simp [nl2]))) hv ?_
    obtain ⟨m, rfl, hm1, hm2⟩ : ∃ m : Nat, v = .int (m : Int) ∧ 1 ≤ m ∧ m ≤ 12 := by
      simp only [List.mem_cons, List.not_mem_nil, or_false] at hm
      rcases hm with rfl | rfl | rfl | rfl
      · exact ⟨1, rfl, by decide, by decide⟩
      · exact ⟨1, rfl, by decide, by decide⟩
      · exact ⟨2, rfl, by decide, by decide⟩
      · exact ⟨12, rfl, by decide, by decide⟩
    walk_at "nx"
    refine tg_name ?_
    walk_at "nx"
    refine ts_seq (ts_asg (te_join ?_))
    walk_at "rd"
    rw [show ((m : Int)).toNat = m from by simp]
    have c13 : Ch [sa] H' H3 := c2.nil.trans c3
    refine draw_word (i := 2) rfl rfl (by decide) (by decide) S3 hm2 fun z H4 z1 z2 z3 S4 c4 => ?_
    have el4 : H4 l = some (.lst (ns.map V.str)) := c4.at (c13.at el (by simp [nls])) (by simp [nls])
    have wz : isWord z = true := word_of (z3 (by omega)) (by omega) z2
    have C4 : Ch [sa] H H4 := (c.trans c13).trans c4
    walk_at "rd"
    refine .inl ⟨l, ns.map V.str, rfl, .inl (SqL.of el4), rfl, flat_strs ns, ?_⟩
    walk_at "rd"
    show if (!inV (.str z) (ns.map V.str)) = true then _ else _
    cases hb : inV (.str z) (ns.map V.str) with
    | false =>
      refine itT (by rfl) ?_
      walk_at "rd"
      refine apq el4 ?_
      walk_at "rd"
      refine r_app el4 (by rw [List.length_map]; have : (many.toNat : Int) ≤ 7 := by omega
                           omega) fun H5 c5 e5 => ?_
      walk_at "nx"
      refine ⟨ns ++ [z], _, _, _, _, rfl, by rw [e5, List.map_append] <;> rfl, fun y hy => ?_, fun _ => by simp, by simp; exact hn, S4.at c5 (by simp [nls.symm]) (by simp [nll.symm]), Ch.fresh1 C4 c5 n1⟩
      rcases List.mem_append.mp hy with h | h
      · exact hw y h
      · rw [List.mem_singleton.mp h]; exact wz
    | true =>
      refine itF (by rfl) ?_
      walk_at "nx"
      refine ⟨ns, _, _, _, _, rfl, el4, hw, fun _ => ?_, by omega, S4, C4⟩
      cases ns with
      | nil => cases hb
      | cons _ _ => simp
  · rintro σ H' ⟨ns, v4, v5, v6, v7, rfl, el, hw, h1, hn, S', c⟩
    walk_at "rd"
    exact k l ns H' n1 el hw (h1 (by omega)) (by omega) S' c
/-! Pools that are drawn. -/
abbrev sQB : Str := PySem.Str.ofString "qbzaem"
theorem qb_cut {r : Int} (h0 : 0 ≤ r) (h1 : r < 5) : 1 ≤ (cutS sQB none (some (2 + r))).cps.size ∧ (cutS sQB none (some (2 + r))).cps.size ≤ 6 ∧ ∀ c ∈ (cutS sQB none (some (2 + r))).cps.toList, c ∈ c_LETTERS_v.cps.toList := by
  obtain ⟨j, rfl⟩ := Int.eq_ofNat_of_zero_le h0
  have hj : j < 5 := by omega
  match j, hj with
  | 0, _ => decide +kernel
  | 1, _ => decide +kernel
  | 2, _ => decide +kernel
  | 3, _ => decide +kernel
  | 4, _ => decide +kernel
  | j + 5, h => omega
theorem te_nopart {σ : L2.St} {H : Hp} {Q : Option Int → Hp → Prop} (k : Q none H) : tNoPart σ H Q := k
def spPool (K : PySem.W.Frag) : Sp := fun vs H Q _ => ∃ sa la, vs = [.ref sa] ∧ StA K H sa la ∧ NamesPost K H sa la Q
theorem pure_pool {K : PySem.W.Frag} (vs : List V) (H : Hp) (Q : VK) (E : XK) (h : spPool K vs H Q E) : t__law_pool K (spPick K) (spNames K) { nx := fun _ H' => Q .non H', rt := Q } (L2.start N__law_pool vs) H := by
  obtain ⟨sa, la, rfl, S, k⟩ := h
  unfold t__law_pool
  walk_at "rd"
  refine pickq S (by decide) (by decide) fun r H1 r0 r1 S1 c1 => ?_
  walk_at "rd"
  refine itd (fun _ => ?_) (fun _ => ?_)
  · walk_at "rd"
    refine pickq S1 (by decide) (by decide) fun r2 H2 r20 r21 S2 c2 => ?_
    walk_at "rd"
    exact ⟨sa, la, 2 + r2, rfl, by omega, by omega, S2, fun l ns H3 n3 e3 hw h1 h7 S3 c3 => k l ns H3 ((c1.trans c2).dom l n3) e3 hw h1 h7 S3 ((c1.trans c2).trans c3)⟩
  · walk_at "nx"
    walk_at "rd"
    refine te_join ?_
    walk_at "rd"
    refine pickq S1 (by decide) (by decide) fun r2 H2 r20 r21 S2 c2 => ?_
    walk_at "rd"
    refine draw_word (i := 1) rfl rfl (by decide) (by decide) S2 (by omega) fun z H3 z1 z2 _ S3 c3 => ?_
    have C3 : Ch [sa] H H3 := (c1.trans c2).trans c3
    walk_at "rd"
    refine te_nopart ?_
    walk_at "rd"
    refine pickq (n := 5) S3 (by decide) (by decide) fun r4 H4 r40 r41 S4 c4 => ?_
    walk_at "rd"
    refine .inr (.inl ⟨sQB, rfl, by decide +kernel, ?_⟩)
    walk_at "rd"
    obtain ⟨q1, q2, q3⟩ := qb_cut r40 r41
    generalize cutS sQB none (some (2 + r4)) = w at q1 q2 q3 ⊢
    have C4 : Ch [sa] H H4 := C3.trans c4
    refine lcq walks_str (fun D m ys H' => (∃ zs : List Str, ys = zs.map V.str ∧ zs.length = m ∧ ∀ z ∈ zs, isWord z = true) ∧ StA K H' sa la ∧ Ch [sa] H H') (fun D H5 _ c _ => ⟨⟨[], rfl, rfl, by simp⟩, S4.at0 c, C4.step c⟩) (fun _ _ _ _ _ => trivial) ?_ ?_
    · rintro D m x ys H' nD hm ⟨c0, hc, rfl⟩ ⟨⟨zs, rfl, lz, hz⟩, S', c⟩ eD hl
      have hc0 : c0 ∈ w.cps.toList := by
        have := Array.mem_of_getElem? hc
        simpa using this
      refine tt_yes (iteT ?_)
      walk_at "rd"
      refine r_addS (by show z.length + 1 ≤ 16777216; omega) ?_
      obtain ⟨nDs, nDl⟩ := S4.sne nD
      refine itemq eD hl (by omega) fun H5 c5 e5 => ⟨⟨zs ++ [z ++ ⟨#[c0]⟩], by rw [List.map_append]; rfl, by simp [lz], fun y hy => ?_⟩, S'.at c5 (by simp [nDs.symm]) (by simp [nDl.symm]), Ch.fresh1 c c5 (C4.dom D nD)⟩
      rcases List.mem_append.mp hy with h | h
      · exact hz y h
      · rw [List.mem_singleton.mp h]
        have ec : (z ++ (⟨#[c0]⟩ : Str)).cps.toList = z.cps.toList ++ [c0] := by simp [Str.cps_append]
        refine word_of (fun q => ?_) ?_ fun c' hc' => ?_
        · have := congrArg (fun s : Str => s.cps.toList.length) q
          simp only [ec] at this
          have e0 : sEmp.cps.toList.length = 0 := by decide +kernel
          rw [e0] at this
          simp at this
        · have : (z ++ (⟨#[c0]⟩ : Str)).length = z.length + 1 := by
            show (z ++ (⟨#[c0]⟩ : Str)).cps.size = z.cps.size + 1
            rw [← Array.length_toList, ec]
            simp
          rw [this]; omega
        · rw [ec] at hc'
          rcases List.mem_append.mp hc' with h | h
          · exact z2 c' h
          · rw [List.mem_singleton.mp h]; exact q3 c0 hc0
    · rintro D ys H' nD ⟨⟨zs, rfl, lz, hz⟩, S', c⟩ eD _
      walk_at "rd"
      exact k D zs H' (C4.dom D nD) eD hz (by omega) (by omega) S' c
/-! Small terms that are drawn. -/
structure TmP (d : PyData) : Prop where
  ok : OkT d
  wo : wOk d 30 = true
abbrev sNot : Str := PySem.Str.ofString "not"
theorem tm_int {r : Int} (h0 : 0 ≤ r) (h1 : r < 1000000000) : TmP (.int r) := ⟨⟨rfl, rfl, by show 1 ≤ 100; decide, by show 0 ≤ 5; decide⟩, by show (decide (0 ≤ r) && decide (r ≤ 999999999)) = true; rw [decide_eq_true h0, decide_eq_true (by omega)]; rfl⟩
theorem tm_word {z : Str} (h : isWord z = true) : TmP (.str z) := ⟨⟨word_pl h, rfl, by show 1 ≤ 100; decide, by show 0 ≤ 5; decide⟩, h⟩
theorem tm_unit : TmP (.tuple []) := ⟨⟨rfl, rfl, by decide +kernel, by decide +kernel⟩, rfl⟩
theorem kind_word {k : Str} (h : isKind k = true) : isWord k = true := by
  unfold isKind at h
  rcases (by simpa using h : k = sAim ∨ k = sTree) with rfl | rfl <;> decide +kernel
theorem tm_use {k z : Str} (hk : isKind k = true) (h : isWord z = true) : TmP (.tuple [.str k, .str z]) := by
  refine ⟨⟨?_, rfl, by show 1 + (1 + (1 + 0)) ≤ 100; decide, by show max 0 (max 0 0) + 1 ≤ 5; decide⟩, ?_⟩
  · show (decide (2 ≤ 1000) && (plD (.str k) && (plD (.str z) && true))) = true
    rw [kind_pl hk, word_pl h]; rfl
  · show (isWord k && (isWord z && true)) = true
    rw [kind_word hk, h]; rfl
theorem tm_not {k z : Str} {r : Int} (hk : isKind k = true) (h : isWord z = true) (h0 : 0 ≤ r) (h1 : r < 1000000000) : TmP (.tuple [.str sNot, .tuple [.str k, .str z], .int r]) := by
  refine ⟨⟨?_, rfl, by show 1 + (1 + ((1 + (1 + (1 + 0))) + (1 + 0))) ≤ 100; decide, by show max 0 (max (max 0 (max 0 0) + 1) (max 0 0)) + 1 ≤ 5; decide⟩, ?_⟩
  · show (decide (3 ≤ 1000) && (plD (.str sNot) && ((decide (2 ≤ 1000) && (plD (.str k) && (plD (.str z) && true))) && (true && true)))) = true
    have : plD (.str sNot) = true := by decide +kernel
    rw [this, kind_pl hk, word_pl h]; rfl
  · show (isWord sNot && ((isWord k && (isWord z && true)) && ((decide (0 ≤ r) && decide (r ≤ 999999999)) && true))) = true
    have : isWord sNot = true := by decide +kernel
    rw [this, kind_word hk, h, decide_eq_true h0, decide_eq_true (by omega)]; rfl
/-- names at a place that no drawing touches -/
structure NmA (K : PySem.W.Frag) (H : Hp) (na sa la : Addr) (ns : List Str) : Prop where
  ob : H na = some (.lst (ns.map V.str))
  n1 : na ≠ sa
  n2 : na ≠ la
  wd : ∀ z ∈ ns, isWord z = true
  l1 : 1 ≤ ns.length
  l2 : ns.length ≤ 15
theorem NmA.at_ {K : PySem.W.Frag} {H : Hp} {na sa la : Addr} {ns : List Str} (h : NmA K H na sa la ns) : SqL K H na (ns.map V.str) := SqL.of h.ob
theorem NmA.at {K : PySem.W.Frag} {H H' : Hp} {M : List Addr} {na sa la : Addr} {ns : List Str} (h : NmA K H na sa la ns) (c : Ch M H H') (n : na ∉ M) : NmA K H' na sa la ns := ⟨c.at h.ob n, h.n1, h.n2, h.wd, h.l1, h.l2⟩
theorem NmA.pick {K : PySem.W.Frag} {H H' : Hp} {na sa la : Addr} {ns : List Str} (h : NmA K H na sa la ns) (c : Ch [sa] H H') : NmA K H' na sa la ns := h.at c (by simp [h.n1])
/-- one name of them -/
theorem nm_ix {K : PySem.W.Frag} {H : Hp} {na sa la : Addr} {ns : List Str} {r : Int} {Q : VK} (h : NmA K H na sa la ns) (h0 : 0 ≤ r) (h1 : r < (ns.length : Int)) (k : ∀ z, z ∈ ns → Q (.str z) H) : rIx K (.ref na) (.int r) H Q := by
  obtain ⟨v, hv, hm⟩ := atI_mem (xs := ns.map V.str) h0 (by rw [List.length_map]; exact h1)
  obtain ⟨z, hz, rfl⟩ := List.mem_map.mp hm
  exact r_ixL h.at_ hv (k z hz)
theorem kd_ix {K : PySem.W.Frag} {H : Hp} {l : Addr} {r : Int} {Q : VK} (h : H l = some (.lst [.str sAim, .str sTree])) (h0 : 0 ≤ r) (h1 : r < 2) (k : ∀ z, isKind z = true → Q (.str z) H) : rIx K (.ref l) (.int r) H Q := by
  obtain ⟨v, hv, hm⟩ := atI_mem (xs := [V.str sAim, V.str sTree]) h0 h1
  refine r_ixL (SqL.of h) hv ?_
  simp only [List.mem_cons, List.not_mem_nil, or_false] at hm
  rcases hm with rfl | rfl
  · exact k _ (by decide +kernel)
  · exact k _ (by decide +kernel)
def spSmall (K : PySem.W.Frag) : Sp := fun vs H Q _ => ∃ sa la na ns, vs = [.ref sa, .ref na] ∧ StA K H sa la ∧ NmA K H na sa la ns ∧ ∀ v d H', Dt K H' v d → TmP d → StA K H' sa la → Ch [sa] H H' → Q v H'
theorem pure_small {K : PySem.W.Frag} (vs : List V) (H : Hp) (Q : VK) (E : XK) (h : spSmall K vs H Q E) : t__law_small_term K (spPick K) { nx := fun _ H' => Q .non H', rt := Q } (L2.start N__law_small_term vs) H := by
  obtain ⟨sa, la, na, ns, rfl, S, N, k⟩ := h
  have nl1 := N.l1
  have nl2 := N.l2
  unfold t__law_small_term
  walk_at "rd"
  refine pickq (n := 6) S (by decide) (by decide) fun way H1 w0 w1 S1 c1 => ?_
  have N1 := N.pick c1
  walk_at "rd"
  refine r_lenL N1.at_ ?_
  walk_at "rd"
  refine pickq S1 (by rw [List.length_map]; omega) (by rw [List.length_map]; omega) fun r2 H2 r20 r21 S2 c2 => ?_
  have N2 := N1.pick c2
  rw [List.length_map] at r21
  refine nm_ix N2 r20 r21 fun z hz => ?_
  have wz := N.wd z hz
  have C2 : Ch [sa] H H2 := c1.trans c2
  walk_at "rd"
  refine itd (fun _ => ?_) (fun _ => ?_)
  · walk_at "rd"
    exact pickq S2 (by decide) (by decide) fun r3 H3 r30 r31 S3 c3 => k _ _ H3 (.int r3) (tm_int r30 r31) S3 (C2.trans c3)
  walk_at "nx"
  walk_at "rd"
  refine itd (fun _ => ?_) (fun _ => ?_)
  · walk_at "rd"
    exact k _ _ H2 (.str z) (tm_word wz) S2 C2
  walk_at "nx"
  walk_at "rd"
  refine itd (fun _ => ?_) (fun _ => ?_)
  · walk_at "rd"
    rename_i p H3 n3 c3 e3
    exact k _ _ H3 (.tup (SqT.of e3) .nil) tm_unit (S2.at0 c3) (C2.step c3)
  walk_at "nx"
  walk_at "rd"
  rename_i l3 H3 n3 c3 e3
  refine pickq (n := 2) (S2.at0 c3) (by decide) (by decide) fun r4 H4 r40 r41 S4 c4 => ?_
  have nl3 := (S2.sne n3).1
  refine kd_ix (c4.at e3 (by simp [nl3])) r40 r41 fun kd hk => ?_
  have C4 : Ch [sa] H H4 := (C2.step c3).trans c4
  walk_at "rd"
  rename_i u5 H5 n5 c5 e5
  have d5 : Dt K H5 (.ref u5) (.tuple [.str kd, .str z]) := .tup (SqT.of e5) (.cons (.str _) (.cons (.str _) .nil))
  refine itd (fun _ => ?_) (fun _ => ?_)
  · walk_at "rd"
    refine pickq (n := 3) (S4.at0 c5) (by decide) (by decide) fun r6 H6 r60 r61 S6 c6 => ?_
    walk_at "rd"
    rename_i p7 H7 n7 c7 e7
    exact k _ _ H7 (.tup (SqT.of e7) (.cons (.str _) (.cons ((d5.mono c6).mono c7) (.cons (.int _) .nil)))) (tm_not hk wz r60 (by omega)) (S6.at0 c7) (((C4.step c5).trans c6).step c7)
  walk_at "nx"
  walk_at "rd"
  exact k _ _ H5 d5 (tm_use hk wz) (S4.at0 c5) (C4.step c5)
/-! One edit that is drawn. -/
abbrev xtra : List Str := [PySem.Str.ofString "q", PySem.Str.ofString "xy", PySem.Str.ofString "w"]
theorem xtra_wd : ∀ z ∈ xtra, isWord z = true := by decide +kernel
structure KnA (K : PySem.W.Frag) (H : Hp) (ka sa : Addr) (ks : List Str) : Prop where
  at_ : SqL K H ka (ks.map V.str)
  n1 : ka ≠ sa
  wd : ∀ z ∈ ks, isWord z = true
  l2 : ks.length ≤ 15
theorem KnA.at {K : PySem.W.Frag} {H H' : Hp} {M : List Addr} {ka sa : Addr} {ks : List Str} (h : KnA K H ka sa ks) (c : Ch M H H') (n : ka ∉ M) : KnA K H' ka sa ks := ⟨c.sql h.at_ n, h.n1, h.wd, h.l2⟩
theorem KnA.pick {K : PySem.W.Frag} {H H' : Hp} {ka sa : Addr} {ks : List Str} (h : KnA K H ka sa ks) (c : Ch [sa] H H') : KnA K H' ka sa ks := h.at c (by simp [h.n1])
theorem kn_ix {K : PySem.W.Frag} {H : Hp} {ka sa : Addr} {ks : List Str} {r : Int} {Q : VK} (h : KnA K H ka sa ks) (h0 : 0 ≤ r) (h1 : r < (ks.length : Int)) (k : ∀ z, z ∈ ks → Q (.str z) H) : rIx K (.ref ka) (.int r) H Q := by
  obtain ⟨v, hv, hm⟩ := atI_mem (xs := ks.map V.str) h0 (by rw [List.length_map]; exact h1)
  obtain ⟨z, hz, rfl⟩ := List.mem_map.mp hm
  exact r_ixL h.at_ hv (k z hz)
def spEditG (K : PySem.W.Frag) : Sp := fun vs H Q _ => ∃ sa la na ns ka ks, vs = [.ref sa, .ref na, .ref ka] ∧ StA K H sa la ∧ NmA K H na sa la ns ∧ KnA K H ka sa ks ∧ (∀ z ∈ ks, z ∈ ns ++ xtra) ∧
  ∀ v e H', Dt K H' v (Ed.dat e) → EdP (ns ++ xtra) e → StA K H' sa la → Ch [sa] H H' → Q v H'
theorem bad_ok : OkT badD := ⟨by decide +kernel, by decide +kernel, by decide +kernel, by decide +kernel⟩
/-- a name of the known ones, perhaps -/
def tKnown (K : PySem.W.Frag) : TS := tIfS (tAnd (tTest (tOp rGt (tVar 3) (tC (.int 3)))) (tAnd (tTest (tOp rGt (tCB (rLenG K) (tCons (tVar 2) tNil)) (tC (.int 0)))) (tTest (tOp rGt (tCallR (spPick K) (fun _ => E0) (tCons (tVar 0) (tCons (tC (.int 4)) tNil))) (tC (.int 0)))))) (tAsg (tOp (rIx K) (tVar 2) (tCallR (spPick K) (fun _ => E0) (tCons (tVar 0) (tCons (tCB (rLenG K) (tCons (tVar 2) tNil)) tNil)))) (gName 4)) tNext
/-- an odd name, perhaps -/
def tOdd (K : PySem.W.Frag) : TS := tIfS (tTest (tOp (rEqG K) (tCallR (spPick K) (fun _ => E0) (tCons (tVar 0) (tCons (tC (.int 16)) tNil))) (tC (.int 0)))) (tAsg (tOp (rIx K) (tLst (tCons (tC (.str (PySem.Str.ofString ""))) (tCons (tC (.str (PySem.Str.ofString "a1"))) tNil))) (tCallR (spPick K) (fun _ => E0) (tCons (tVar 0) (tCons (tC (.int 2)) tNil)))) (gName 4)) tNext
theorem known_ok {K : PySem.W.Frag} {sa la ka : Addr} {ks : List Str} {way : Int} {z : Str} {s1 : Option V} {v5 v6 v7 v8 : Option V} {n : L2.St → Hp → Prop} {rt : VK} {bk ct : L2.St → Hp → Prop} {H : Hp} (S : StA K H sa la) (N' : KnA K H ka sa ks)
    (k : ∀ y H', (y = z ∨ (3 < way ∧ y ∈ ks)) → StA K H' sa la → Ch [sa] H H' → n [some (.ref sa), s1, some (.ref ka), some (.int way), some (.str y), v5, v6, v7, v8] H') :
    tKnown K ⟨n, rt, bk, ct⟩ [some (.ref sa), s1, some (.ref ka), some (.int way), some (.str z), v5, v6, v7, v8] H := by
  have kl := N'.l2
  have same : ∀ H', StA K H' sa la → Ch [sa] H H' → n [some (.ref sa), s1, some (.ref ka), some (.int way), some (.str z), v5, v6, v7, v8] H' := fun H' S' c => k z H' (.inl rfl) S' c
  unfold tKnown
  walk_at "rd"
  refine itd (fun hw => ?_) (fun _ => ?_)
  · walk_at "rd"
    refine r_lenL N'.at_ ?_
    walk_at "rd"
    refine itd (fun hk => ?_) (fun _ => ?_)
    · walk_at "rd"
      refine pickq (n := 4) S (by decide) (by decide) fun r1 H1 r10 r11 S1 c1 => ?_
      walk_at "rd"
      refine itd (fun _ => ?_) (fun _ => ?_)
      · walk_at "rd"
        refine r_lenL (N'.pick c1).at_ ?_
        walk_at "rd"
        rw [List.length_map] at hk
        refine pickq S1 (by rw [List.length_map]; omega) (by rw [List.length_map]; omega) fun r2 H2 r20 r21 S2 c2 => ?_
        rw [List.length_map] at r21
        refine kn_ix (N'.pick (c1.trans c2)) r20 r21 fun y hy => ?_
        walk_at "rd"
        exact k y H2 (.inr ⟨hw, hy⟩) S2 (c1.trans c2)
      · walk_at "nx"
        exact same H1 S1 c1
    · walk_at "if"
      walk_at "nx"
      exact same H S Ch.refl
  · walk_at "if"
    walk_at "nx"
    exact same H S Ch.refl
theorem odd_ok {K : PySem.W.Frag} {sa la : Addr} {z : Str} {s1 s2 s3 : Option V} {v5 v6 v7 v8 : Option V} {n : L2.St → Hp → Prop} {rt : VK} {bk ct : L2.St → Hp → Prop} {H : Hp} (S : StA K H sa la)
    (k : ∀ y H', (y = z ∨ y = sEmp ∨ y = sA1) → StA K H' sa la → Ch [sa] H H' → n [some (.ref sa), s1, s2, s3, some (.str y), v5, v6, v7, v8] H') :
    tOdd K ⟨n, rt, bk, ct⟩ [some (.ref sa), s1, s2, s3, some (.str z), v5, v6, v7, v8] H := by
  unfold tOdd
  walk_at "rd"
  refine pickq (n := 16) S (by decide) (by decide) fun r1 H1 r10 r11 S1 c1 => ?_
  walk_at "rd"
  refine itd (fun _ => ?_) (fun _ => ?_)
  · walk_at "rd"
    rename_i l2 H2 n2 c2 e2
    refine pickq (n := 2) (S1.at0 c2) (by decide) (by decide) fun r3 H3 r30 r31 S3 c3 => ?_
    have nl := (S1.sne n2).1
    obtain ⟨v, hv, hm⟩ := atI_mem (xs := [V.str sEmp, V.str sA1]) r30 r31
    refine r_ixL (SqL.of (c3.at e2 (by simp [nl]))) hv ?_
    have C3 : Ch [sa] H H3 := (c1.step c2).trans c3
    simp only [List.mem_cons, List.not_mem_nil, or_false] at hm
    rcases hm with rfl | rfl
    · walk_at "rd"
      exact k _ H3 (.inr (.inl rfl)) S3 C3
    · walk_at "rd"
      exact k _ H3 (.inr (.inr rfl)) S3 C3
  · walk_at "nx"
    exact k z H1 (.inl rfl) S1 c1
theorem pure_edit {K : PySem.W.Frag} (vs : List V) (H : Hp) (Q : VK) (E : XK) (h : spEditG K vs H Q E) : t__law_edit K (spPick K) (spSmall K) { nx := fun _ H' => Q .non H', rt := Q } (L2.start N__law_edit vs) H := by
  obtain ⟨sa, la, na, ns, ka, ks, rfl, S, N, N', hsub, k⟩ := h
  have nl1 := N.l1
  have nl2 := N.l2
  have kl2 := N'.l2
  unfold t__law_edit
  walk_at "rd"
  refine pickq (n := 8) S (by decide) (by decide) fun way H1 w0 w1 S1 c1 => ?_
  walk_at "rd"
  refine r_lenL (N.pick c1).at_ ?_
  walk_at "rd"
  refine pickq S1 (by rw [List.length_map]; omega) (by rw [List.length_map]; omega) fun r2 H2 r20 r21 S2 c2 => ?_
  rw [List.length_map] at r21
  have C2 : Ch [sa] H H2 := c1.trans c2
  refine nm_ix (N.pick C2) r20 r21 fun z hz => ?_
  walk_at "nx"
  refine tg_name ?_
  walk_at "nx"
  refine ts_seq (known_ok (z := z) S2 (N'.pick C2) fun y H3 hy S3 c3 => ?_)
  have C3 : Ch [sa] H H3 := C2.trans c3
  refine ts_seq (odd_ok (z := y) S3 fun x H4 hx S4 c4 => ?_)
  have C4 : Ch [sa] H H4 := C3.trans c4
  have lx : x.length ≤ 1000 := by
    have wl : ∀ {u : Str}, isWord u = true → u.length ≤ 1000 := fun h => Nat.le_trans (word_len h) (by decide)
    rcases hx with rfl | rfl | rfl
    · rcases hy with rfl | ⟨_, h⟩
      · exact wl (N.wd _ hz)
      · exact wl (N'.wd _ h)
    · decide +kernel
    · decide +kernel
  walk_at "rd"
  refine itd (fun hw => ?_) (fun hw => ?_)
  · have px : x ∈ ns ++ xtra ∨ x = sEmp ∨ x = sA1 := by
      rcases hx with rfl | h
      · rcases hy with rfl | ⟨h, _⟩
        · exact .inl (List.mem_append_left _ hz)
        · omega
      · exact .inr h
    walk_at "rd"
    rename_i l5 H5 n5 c5 e5
    refine pickq (n := 2) (S4.at0 c5) (by decide) (by decide) fun r6 H6 r60 r61 S6 c6 => ?_
    refine kd_ix (c6.at e5 (by simp [(S4.sne n5).1])) r60 r61 fun kd hk => ?_
    have C6 : Ch [sa] H H6 := (C4.step c5).trans c6
    have pk : kd = sAim ∨ kd = sTree ∨ kd = sNode := by
      unfold isKind at hk
      rcases (by simpa using hk : kd = sAim ∨ kd = sTree) with h | h
      · exact .inl h
      · exact .inr (.inl h)
    walk_at "rd"
    refine ⟨sa, la, na, ns, rfl, S6, N.pick C6, fun v d H7 hv tm S7 c7 => ?_⟩
    have C7 : Ch [sa] H H7 := C6.trans c7
    walk_at "rd"
    refine pickq (n := 12) S7 (by decide) (by decide) fun r8 H8 r80 r81 S8 c8 => ?_
    have C8 : Ch [sa] H H8 := C7.trans c8
    have hv8 := hv.mono c8
    have fin : ∀ (kd2 : Str) (v2 : V) (d2 : PyData) (H9 : Hp) (q : Addr) (H10 : Hp), (kd2 = sAim ∨ kd2 = sTree ∨ kd2 = sNode) → Dt K H9 v2 d2 → OkT d2 → (wOk d2 30 = true ∨ d2 = badD) → StA K H9 sa la → Ch [sa] H H9 → Ch [] H9 H10 → H10 q = some (.tup [.str (PySem.Str.ofString "put"), .str x, .str kd2, v2]) → Q (.ref q) H10 :=
      fun kd2 v2 d2 H9 q H10 h1 h2 h3 h4 h5 h6 h7 h8 => k (.ref q) (.put x kd2 d2) H10 (.tup (SqT.of h8) (.cons (.str _) (.cons (.str _) (.cons (.str _) (.cons (h2.mono h7) .nil))))) ⟨h3, px, h1, h4⟩ (h5.at0 h7) (h6.step h7)
    walk_at "rd"
    refine itd (fun h0 => ?_) (fun _ => ?_)
    · walk_at "rd"
      refine itF (decide_eq_false (by omega)) ?_
      walk_at "nx"
      walk_at "rd"
      rename_i q H10 n10 c10 e10
      exact fin _ v d H8 q H10 (.inr (.inr rfl)) hv8 tm.ok (.inl tm.wo) S8 C8 c10 e10
    · walk_at "nx"
      walk_at "rd"
      refine itd (fun _ => ?_) (fun _ => ?_)
      · walk_at "rd"
        rename_i q9 H9 n9 c9 e9 q H10 n10 c10 e10
        exact fin kd (.ref q9) badD H9 q H10 pk (.tup (SqT.of e9) (.cons (.str _) (.cons (.int _) .nil))) bad_ok (.inr rfl) (S8.at0 c9) (C8.step c9) c10 e10
      · walk_at "nx"
        walk_at "rd"
        rename_i q H10 n10 c10 e10
        exact fin kd v d H8 q H10 pk hv8 tm.ok (.inl tm.wo) S8 C8 c10 e10
  · walk_at "nx"
    walk_at "rd"
    refine itd (fun _ => ?_) (fun _ => ?_)
    · walk_at "rd"
      rename_i q H5 n5 c5 e5
      exact k (.ref q) (.drop x) H5 (.tup (SqT.of e5) (.cons (.str _) (.cons (.str _) .nil))) lx (S4.at0 c5) (C4.step c5)
    · walk_at "nx"
      walk_at "rd"
      rename_i l5 H5 n5 c5 e5
      refine pickq (n := 3) (S4.at0 c5) (by decide) (by decide) fun r6 H6 r60 r61 S6 c6 => ?_
      obtain ⟨v, hv, hm⟩ := atI_mem (xs := xtra.map V.str) r60 r61
      obtain ⟨nn, hnn, rfl⟩ := List.mem_map.mp hm
      refine r_ixL (xs := xtra.map V.str) (SqL.of (c6.at e5 (by simp [(S4.sne n5).1]))) hv ?_
      have C6 : Ch [sa] H H6 := (C4.step c5).trans c6
      have fin : ∀ (n2 : Str) (H9 : Hp) (q : Addr) (H10 : Hp), (n2 ∈ ns ++ xtra ∨ n2 = sEmp) → StA K H9 sa la → Ch [sa] H H9 → Ch [] H9 H10 → H10 q = some (.tup [.str (PySem.Str.ofString "rename"), .str x, .str n2]) → Q (.ref q) H10 :=
        fun n2 H9 q H10 h1 h5 h6 h7 h8 => k (.ref q) (.ren x n2) H10 (.tup (SqT.of h8) (.cons (.str _) (.cons (.str _) (.cons (.str _) .nil)))) ⟨lx, h1⟩ (h5.at0 h7) (h6.step h7)
      walk_at "rd"
      refine pickq (n := 3) S6 (by decide) (by decide) fun r7 H7 r70 r71 S7 c7 => ?_
      have C7 : Ch [sa] H H7 := C6.trans c7
      walk_at "rd"
      refine itd (fun _ => ?_) (fun _ => ?_)
      · walk_at "rd"
        rename_i l8 H8 n8 c8 e8
        have N8 := (N.pick C7).at c8 (by simp)
        refine r_addL N8.ob e8 (by rw [List.length_map]; simp; omega) fun l9 H9 n9 c9 e9 => ?_
        have N9 := N8.at c9 (by simp)
        walk_at "rd"
        refine r_lenL N9.at_ ?_
        walk_at "rd"
        have S9 := (S7.at0 c8).at0 c9
        refine pickq S9 (by rw [List.length_map]; omega) (by rw [List.length_map]; omega) fun r10 H10 r100 r101 S10 c10 => ?_
        rw [List.length_map] at r101
        obtain ⟨v2, hv2, hm2⟩ := atI_mem (xs := ns.map V.str ++ [V.str sEmp]) r100 (by simp; exact r101)
        refine r_ixL (SqL.of (c10.at e9 (by simp [((S7.at0 c8).sne n9).1]))) hv2 ?_
        obtain ⟨n2, rfl, hn2⟩ : ∃ n2, v2 = .str n2 ∧ (n2 ∈ ns ++ xtra ∨ n2 = sEmp) := by
          rcases List.mem_append.mp hm2 with h | h
          · obtain ⟨u, hu, rfl⟩ := List.mem_map.mp h
            exact ⟨u, rfl, .inl (List.mem_append_left _ hu)⟩
          · exact ⟨sEmp, List.mem_singleton.mp h, .inr rfl⟩
        walk_at "rd"
        rename_i q H11 n11 c11 e11
        exact fin n2 H10 q H11 hn2 S10 (((C7.step c8).step c9).trans c10) c11 e11
      · walk_at "nx"
        walk_at "rd"
        rename_i q H10 n10 c10 e10
        exact fin nn H7 q H10 (.inl (List.mem_append_right _ hnn)) S7 C7 c10 e10
/-! The deeds at the start, drawn. -/
/-- what stands between two parts: the rest by what it asks alone -/
theorem ts_mid {a : TS} {n : L2.St → Hp → Prop} {rt : VK} {bk ct : L2.St → Hp → Prop} {σ : L2.St} {H : Hp} (I : L2.St → Hp → Prop) (k : ∀ n' : L2.St → Hp → Prop, (∀ σ H, I σ H → n' σ H) → a ⟨n', rt, bk, ct⟩ σ H) (h : ∀ σ H, I σ H → n σ H) : a ⟨n, rt, bk, ct⟩ σ H := k n h
def SimD : Dd → Prop
  | .run _ => False
  | .ed _ => True
  | .undo => True
  | .redo => True
  | .keep _ => True
structure DS (K : PySem.W.Frag) (pool : List Str) (H : Hp) (v : V) (δ : Dd) : Prop where
  at_ : DeedAt K H v δ
  sm : SimD δ
  dp : DdP pool δ
theorem All2.imp {α β : Type} {R S : α → β → Prop} (h : ∀ a b, R a b → S a b) : ∀ {as : List α} {bs : List β}, All2 R as bs → All2 S as bs
  | _, _, .nil => .nil
  | _, _, .cons x t => .cons (h _ _ x) (All2.imp h t)
section
variable {K : PySem.W.Frag} {H H' : Hp} {M : List Addr} {pool : List Str} {v : V} {δ : Dd}
theorem DeedAt.simp (h : DeedAt K H v δ) (s : SimD δ) : DeedX K H M v δ := by
  cases δ with
  | run es => exact s.elim
  | ed e => exact h
  | undo => exact h
  | redo => exact h
  | keep i => exact h
theorem DeedAt.smono (h : DeedAt K H v δ) (s : SimD δ) (c : Ch M H H') : DeedAt K H' v δ := by
  cases δ with
  | run es => exact s.elim
  | ed e => exact Dt.mono c h
  | undo => obtain ⟨a, h1, h2⟩ := h; exact ⟨a, h1, c.sqt h2⟩
  | redo => obtain ⟨a, h1, h2⟩ := h; exact ⟨a, h1, c.sqt h2⟩
  | keep i => obtain ⟨a, h1, h2⟩ := h; exact ⟨a, h1, c.sqt h2⟩
theorem DS.mono (h : DS K pool H v δ) (c : Ch M H H') : DS K pool H' v δ := ⟨h.at_.smono h.sm c, h.sm, h.dp⟩
end
/-- deeds in a list at q -/
structure DL (K : PySem.W.Frag) (pool : List Str) (H : Hp) (q : Addr) (n : Nat) : Prop where
  ex : ∃ ws δs, H q = some (.lst ws) ∧ ws.length ≤ n ∧ All2 (DS K pool H) ws δs
section
variable {K : PySem.W.Frag} {H H' : Hp} {M : List Addr} {pool : List Str} {q : Addr} {n n' : Nat}
theorem DL.at (h : DL K pool H q n) (c : Ch M H H') (nq : q ∉ M) : DL K pool H' q n := by
  obtain ⟨ws, δs, h1, h2, h3⟩ := h
  exact ⟨ws, δs, c.at h1 nq, h2, h3.imp fun _ _ x => x.mono c⟩
theorem DL.at0 (h : DL K pool H q n) (c : Ch [] H H') : DL K pool H' q n := h.at c (by simp)
theorem DL.le (h : DL K pool H q n) (l : n ≤ n') : DL K pool H q n' := by
  obtain ⟨ws, δs, h1, h2, h3⟩ := h
  exact ⟨ws, δs, h1, Nat.le_trans h2 l, h3⟩
theorem DL.nil (h : H q = some (.lst [])) : DL K pool H q 0 := ⟨[], [], h, Nat.le_refl _, .nil⟩
/-- one more -/
theorem DL.snoc {v : V} {δ : Dd} {Q : VK} (h : DL K pool H q n) (d : DS K pool H v δ) (hn : n ≤ 100000) (k : ∀ H2, Ch [q] H H2 → DL K pool H2 q (n + 1) → Q .non H2) : rAppend (.ref q) [v] H Q := by
  obtain ⟨ws, δs, h1, h2, h3⟩ := h
  refine r_app h1 (Nat.le_trans h2 hn) fun H2 c2 e2 => k H2 c2 ⟨ws ++ [v], δs ++ [δ], e2, by simp; exact h2, ?_⟩
  exact (h3.imp fun _ _ x => x.mono c2).append (.cons (d.mono c2) .nil)
theorem DL.apq {t : TA} {σ : L2.St} {Q : VK} (h : DL K pool H q n) (k : t σ H fun ys H2 => rAppend (.ref q) ys H2 Q) : ApQ K t σ Q (.ref q) H := by
  obtain ⟨ws, δs, h1, h2, h3⟩ := h
  exact K9.apq h1 k
end
def DeedsPost (K : PySem.W.Frag) (pool : List Str) (H : Hp) (sa la : Addr) (Q : VK) : Prop := ∀ q ws δs H', H q = none → H' q = some (.lst ws) → ws.length ≤ 1000 →
  (∀ M, (∀ a ∈ M, H a ≠ none) → All2 (fun v δ => DeedX K H' M v δ ∧ DdP pool δ) ws δs) → StA K H' sa la → Ch [sa] H H' → Q (.ref q) H'
theorem DL.post {K : PySem.W.Frag} {pool : List Str} {H H' : Hp} {sa la q : Addr} {Q : VK} {n : Nat} (h : DL K pool H' q n) (k : DeedsPost K pool H sa la Q) (hn : n ≤ 1000) (nq : H q = none) (S : StA K H' sa la) (c : Ch [sa] H H') : Q (.ref q) H' := by
  obtain ⟨ws, δs, h1, h2, h3⟩ := h
  exact k q ws δs H' nq h1 (Nat.le_trans h2 hn) (fun M _ => h3.imp fun _ _ x => ⟨x.at_.simp x.sm, x.dp⟩) S c
theorem cut_mem {xs : List V} {lo hi : Option Int} {v : V} (h : v ∈ cutV xs lo hi) : v ∈ xs := by
  unfold cutV at h
  first
  | exact List.mem_of_mem_drop (List.mem_of_mem_take h)
  | exact List.mem_of_mem_take (List.mem_of_mem_drop h)
theorem cut_len {xs : List V} {lo hi : Option Int} : (cutV xs lo hi).length ≤ xs.length := by
  unfold cutV
  rw [List.length_take, List.length_drop]
  omega
theorem r_slA {K : PySem.W.Frag} {p : Addr} {xs : List V} {lo hi : Option Int} {H : Hp} {Q : VK} (h : SqL K H p xs) (k : ∀ l H2, H l = none → Ch [] H H2 → H2 l = some (.lst (cutV xs lo hi)) → Q (.ref l) H2) : rSlG K (.ref p) lo hi H Q :=
  .inl ⟨p, xs, rfl, h, fun l hl => k l _ hl (Ch.new hl) upd_same⟩
theorem cut_nm {ns : List Str} {lo hi : Option Int} {i : Nat} {x : V} (h : (cutV (ns.map V.str) lo hi)[i]? = some x) : ∃ z, x = .str z ∧ z ∈ ns := by
  obtain ⟨z, hz, rfl⟩ := List.mem_map.mp (cut_mem (List.mem_of_getElem? h))
  exact ⟨z, rfl, hz⟩
theorem kind_or {kd : Str} (h : isKind kd = true) : kd = sAim ∨ kd = sTree ∨ kd = sNode := by
  unfold isKind at h
  rcases (by simpa using h : kd = sAim ∨ kd = sTree) with h | h
  · exact .inl h
  · exact .inr (.inl h)
/-- a put that is drawn -/
theorem ds_put {K : PySem.W.Frag} {H : Hp} {pool : List Str} {q : Addr} {z kd : Str} {v : V} {d : PyData} (h : H q = some (.tup [.str (PySem.Str.ofString "put"), .str z, .str kd, v])) (hz : z ∈ pool) (hk : isKind kd = true) (hv : Dt K H v d) (tm : TmP d) : DS K pool H (.ref q) (.ed (.put z kd d)) :=
  ⟨.tup (SqT.of h) (.cons (.str _) (.cons (.str _) (.cons (.str _) (.cons hv .nil)))), trivial, ⟨tm.ok, .inl hz, kind_or hk, .inl tm.wo⟩⟩
def spOpening (K : PySem.W.Frag) : Sp := fun vs H Q _ => ∃ sa la na ns, vs = [.ref sa, .ref na] ∧ StA K H sa la ∧ NmA K H na sa la ns ∧ DeedsPost K (ns ++ xtra) H sa la Q
theorem pure_opening {K : PySem.W.Frag} (vs : List V) (H : Hp) (Q : VK) (E : XK) (h : spOpening K vs H Q E) : t__law_opening K (spPick K) (spSmall K) { nx := fun _ H' => Q .non H', rt := Q } (L2.start N__law_opening vs) H := by
  obtain ⟨sa, la, na, ns, rfl, S, N, k⟩ := h
  have nl1 := N.l1
  have nl2 := N.l2
  unfold t__law_opening
  refine ts_seq (ts_asg (te_lst (te_nil (newL (by simp) fun q H1 n1 c1 e1 => tg_name (nd_nx (ts_seq ?_))))))
  obtain ⟨nqs, nql⟩ := S.sne n1
  have nqn : q ≠ na := (ne_of_none N.ob n1).symm
  refine ts_mid (fun σ H' => ∃ v3 v4 v5, σ = [some (.ref sa), some (.ref na), some (.ref q), v3, v4, v5] ∧ DL K (ns ++ xtra) H' q 25 ∧ StA K H' sa la ∧ Ch [sa] H H') (fun n' hn' => ?_) ?_
  · walk_at "rd"
    refine pickq (n := 6) (S.at0 c1) (by decide) (by decide) fun r2 H2 _ _ S2 c2 => ?_
    have D2 : DL K (ns ++ xtra) H2 q 0 := (DL.nil e1).at c2 (by simp [nqs])
    have C2 : Ch [sa] H H2 := c1.nil.trans c2
    walk_at "rd"
    refine itd (fun _ => ?_) (fun _ => ?_)
    · walk_at "rd"
      rename_i l3 H3 n3 c3 e3
      refine pickq (n := 9) (S2.at0 c3) (by decide) (by decide) fun r4 H4 r40 r41 S4 c4 => ?_
      obtain ⟨v, hv, hm⟩ := atI_mem (xs := [V.int 1, .int 5, .int 18, .int 19, .int 20, .int 21, .int 23, .int 100, .int 0]) r40 r41
      refine r_ixL (SqL.of (c4.at e3 (by simp [(S2.sne n3).1]))) hv ?_
      obtain ⟨lim, rfl⟩ : ∃ i : Int, v = .int i := by
        simp only [List.mem_cons, List.not_mem_nil, or_false] at hm
        rcases hm with rfl | rfl | rfl | rfl | rfl | rfl | rfl | rfl | rfl <;> exact ⟨_, rfl⟩
      have D4 := (D2.at0 c3).at c4 (by simp [nqs])
      have C4 : Ch [sa] H H4 := (C2.step c3).trans c4
      walk_at "nx"
      refine tg_name ?_
      walk_at "nx"
      refine ts_seq ?_
      refine ts_mid (fun σ H' => ∃ v4 v5, σ = [some (.ref sa), some (.ref na), some (.ref q), some (.int lim), v4, v5] ∧ DL K (ns ++ xtra) H' q 1 ∧ StA K H' sa la ∧ Ch [sa] H H') (fun n'' hn'' => ?_) ?_
      · walk_at "rd"
        refine itd (fun _ => ?_) (fun _ => ?_)
        · refine ts_drop (te_app (te_var rfl (D4.apq ?_)))
          walk_at "rd"
          rename_i p5 H5 n5 c5 e5
          refine (D4.at0 c5).snoc (δ := .keep lim) ⟨⟨p5, rfl, SqT.of e5⟩, trivial, trivial⟩ (by decide) fun H6 c6 D6 => ?_
          refine hn'' _ _ ⟨_, _, rfl, D6, (S4.at0 c5).at c6 (by simp [nqs.symm]) (by simp [nql.symm]), Ch.fresh1 (C4.step c5) c6 n1⟩
        · walk_at "nx"
          exact hn'' _ _ ⟨_, _, rfl, D4.le (by decide), S4, C4⟩
      · rintro σ H5 ⟨v4, v5, rfl, D5, S5, C5⟩
        walk_at "rd"
        refine pickq (n := 8) S5 (by decide) (by decide) fun r6 H6 r60 r61 S6 c6 => ?_
        walk_at "rd"
        refine forq walks_rng (fun i σ H' => ∃ v4 v5, σ = [some (.ref sa), some (.ref na), some (.ref q), some (.int lim), v4, v5] ∧ DL K (ns ++ xtra) H' q (1 + i) ∧ StA K H' sa la ∧ Ch [sa] H H') ⟨_, _, rfl, D5.at c6 (by simp [nqs]), S6, C5.trans c6⟩ (fun _ _ _ _ => trivial) ?_ ?_
        · rintro i x σ H' hi rfl ⟨v4, v5, rfl, D, S', C⟩
          have N' := N.pick C
          walk_at "nx"
          refine tg_name ?_
          refine ts_drop (te_app (te_var rfl (D.apq ?_)))
          walk_at "rd"
          refine r_lenL N'.at_ ?_
          refine r_I (by rw [List.length_map]; omega) ?_
          obtain ⟨f1, f2⟩ := fmod_b (i := 0 + (i : Int)) (n := ((ns.map V.str).length : Int)) (by rw [List.length_map]; omega)
          refine nm_ix N' f1 (by rw [List.length_map] at f2 ⊢; exact f2) fun z hz => ?_
          walk_at "rd"
          rename_i p7 H7 n7 c7 e7
          refine (D.at0 c7).snoc (δ := .ed (.put z sAim (.int (0 + (i : Int))))) (ds_put e7 (List.mem_append_left _ hz) (by decide +kernel) (.int _) (tm_int (by omega) (by omega))) (by omega) fun H8 c8 D8 => ?_
          exact ⟨_, _, rfl, D8.le (by omega), (S'.at0 c7).at c8 (by simp [nqs.symm]) (by simp [nql.symm]), Ch.fresh1 (C.step c7) c8 n1⟩
        · rintro σ H' ⟨v4, v5, rfl, D, S', C⟩
          exact hn' _ _ ⟨_, _, _, rfl, D.le (by omega), S', C⟩
    · walk_at "nx"
      exact hn' _ _ ⟨_, _, _, rfl, D2.le (by decide), S2, C2⟩
  · rintro σ H2 ⟨v3, v4, v5, rfl, D2, S2, C2⟩
    have N2 := N.pick C2
    walk_at "rd"
    refine te_nopart ?_
    walk_at "rd"
    refine r_lenL N2.at_ ?_
    walk_at "rd"
    refine pickq S2 (by rw [List.length_map]; omega) (by rw [List.length_map]; omega) fun r3 H3 r30 r31 S3 c3 => ?_
    have N3 := N2.pick c3
    walk_at "rd"
    refine r_slA N3.at_ fun l4 H4 n4 c4 e4 => ?_
    walk_at "rd"
    have C3 : Ch [sa] H H3 := C2.trans c3
    have C4 : Ch [sa] H H4 := C3.step c4
    have D4 := (D2.at c3 (by simp [nqs])).at0 c4
    have nl4 := (S3.sne n4).1
    have nlq : l4 ≠ q := by
      obtain ⟨ws, δs, h1, _⟩ := D2.at c3 (by simp [nqs])
      exact (ne_of_none h1 n4).symm
    have lc : (cutV (ns.map V.str) none (some r3)).length ≤ 15 := Nat.le_trans cut_len (by rw [List.length_map]; exact nl2)
    refine forq walks_lst (fun i σ H' => ∃ v5, σ = [some (.ref sa), some (.ref na), some (.ref q), v3, v4, v5] ∧ DL K (ns ++ xtra) H' q (25 + i) ∧ StA K H' sa la ∧ H' l4 = some (.lst (cutV (ns.map V.str) none (some r3))) ∧ Ch [sa] H H') ⟨_, rfl, D4, S3.at0 c4, e4, C4⟩ (fun i σ H' ⟨_, _, _, _, e, _⟩ => SqL.of e) ?_ ?_
    · rintro i x σ H' hi hx ⟨v5, rfl, D, S', e, C⟩
      obtain ⟨z, rfl, hz⟩ := cut_nm hx
      walk_at "nx"
      refine tg_name ?_
      refine ts_drop (te_app (te_var rfl (D.apq ?_)))
      walk_at "rd"
      rename_i l5 H5 n5 c5 e5
      refine pickq (n := 2) (S'.at0 c5) (by decide) (by decide) fun r6 H6 r60 r61 S6 c6 => ?_
      refine kd_ix (c6.at e5 (by simp [(S'.sne n5).1])) r60 r61 fun kd hk => ?_
      have C6 : Ch [sa] H H6 := (C.step c5).trans c6
      walk_at "rd"
      refine ⟨sa, la, na, ns, rfl, S6, N.pick C6, fun v d H7 hv tm S7 c7 => ?_⟩
      walk_at "rd"
      rename_i p8 H8 n8 c8 e8
      have c58 : Ch [sa] H' H8 := ((c5.nil.trans c6).trans c7).step c8
      refine (D.at c58 (by simp [nqs])).snoc (δ := .ed (.put z kd d)) (ds_put e8 (List.mem_append_left _ hz) hk (hv.mono c8) tm) (by omega) fun H9 c9 D9 => ?_
      exact ⟨_, rfl, D9.le (by omega), (S7.at0 c8).at c9 (by simp [nqs.symm]) (by simp [nql.symm]), c9.at (c58.at e (by simp [nl4])) (by simp [nlq]), Ch.fresh1 (C.trans c58) c9 n1⟩
    · rintro σ H' ⟨v5, rfl, D, S', e, C⟩
      walk_at "rd"
      exact D.post k (by omega) n1 S' C
/-! One turn's deeds, drawn; nine edits, drawn. -/
theorem rep_flat {α : Type} (n : Nat) (x : α) : (List.replicate n [x]).flatten = List.replicate n x := by
  induction n with
  | zero => rfl
  | succ n ih => rw [List.replicate_succ, List.flatten_cons, ih]; rfl
theorem All2.rep {α β : Type} {R : α → β → Prop} {a : α} {b : β} (h : R a b) : ∀ n : Nat, All2 R (List.replicate n a) (List.replicate n b)
  | 0 => .nil
  | n + 1 => .cons h (All2.rep h n)
/-- a deed n times -/
theorem r_mulD {K : PySem.W.Frag} {H : Hp} {Q : VK} {p : Addr} {v : V} {j : Int} (h : H p = some (.lst [v])) (h0 : 0 ≤ j) (h1 : j ≤ 1000) (k : ∀ l H2, H l = none → Ch [] H H2 → H2 l = some (.lst (List.replicate j.toNat v)) → Q (.ref l) H2) : rMulG (.ref p) (.int j) H Q := by
  refine r_mulL h ⟨by omega, by omega⟩ (by simp; omega) fun l H2 n c e => k l H2 n c ?_
  rw [e, rep_flat]
/-- a list of edits that are drawn -/
structure EL (K : PySem.W.Frag) (pool : List Str) (H : Hp) (l : Addr) (n : Nat) : Prop where
  ex : ∃ (evs : List V) (es : List Ed), H l = some (.lst evs) ∧ Dts K H evs (es.map Ed.dat) ∧ es.length = n ∧ ∀ e ∈ es, EdP pool e
section
variable {K : PySem.W.Frag} {H H' : Hp} {M : List Addr} {pool : List Str} {q : Addr} {n : Nat}
theorem EL.at (h : EL K pool H q n) (c : Ch M H H') (nq : q ∉ M) : EL K pool H' q n := by
  obtain ⟨ws, es, h1, h2, h3, h4⟩ := h
  exact ⟨ws, es, c.at h1 nq, h2.mono c, h3, h4⟩
theorem EL.at0 (h : EL K pool H q n) (c : Ch [] H H') : EL K pool H' q n := h.at c (by simp)
theorem EL.nil (h : H q = some (.lst [])) : EL K pool H q 0 := ⟨[], [], h, .nil, rfl, by simp⟩
theorem EL.apq {t : TA} {σ : L2.St} {Q : VK} (h : EL K pool H q n) (k : t σ H fun ys H2 => rAppend (.ref q) ys H2 Q) : ApQ K t σ Q (.ref q) H := by
  obtain ⟨ws, es, h1, _⟩ := h
  exact K9.apq h1 k
theorem EL.snoc {v : V} {e : Ed} {Q : VK} (h : EL K pool H q n) (d : Dt K H v e.dat) (p : EdP pool e) (hn : n ≤ 100000) (k : ∀ H2, Ch [q] H H2 → EL K pool H2 q (n + 1) → Q .non H2) : rAppend (.ref q) [v] H Q := by
  obtain ⟨ws, es, h1, h2, h3, h4⟩ := h
  have l := h2.len
  rw [List.length_map] at l
  refine r_app h1 (by omega) fun H2 c2 e2 => k H2 c2 ⟨ws ++ [v], es ++ [e], e2, ?_, by simp [h3], fun x hx => ?_⟩
  · rw [List.map_append]
    exact (h2.mono c2).append (.cons (d.mono c2) .nil)
  · rcases List.mem_append.mp hx with hx | hx
    · exact h4 x hx
    · rw [List.mem_singleton.mp hx]; exact p
end
def spDeeds (K : PySem.W.Frag) : Sp := fun vs H Q _ => ∃ sa la na ns ka ks, vs = [.ref sa, .ref na, .ref ka] ∧ StA K H sa la ∧ NmA K H na sa la ns ∧ KnA K H ka sa ks ∧ (∀ z ∈ ks, z ∈ ns ++ xtra) ∧ DeedsPost K (ns ++ xtra) H sa la Q
theorem pure_deeds {K : PySem.W.Frag} (vs : List V) (H : Hp) (Q : VK) (E : XK) (h : spDeeds K vs H Q E) : t__law_deeds K (spPick K) (spEditG K) { nx := fun _ H' => Q .non H', rt := Q } (L2.start N__law_deeds vs) H := by
  obtain ⟨sa, la, na, ns, ka, ks, rfl, S, N, N', hsub, k⟩ := h
  unfold t__law_deeds
  walk_at "rd"
  refine pickq (n := 16) S (by decide) (by decide) fun way H1 w0 w1 S1 c1 => ?_
  walk_at "rd"
  refine itd (fun _ => ?_) (fun _ => ?_)
  · walk_at "rd"
    refine ⟨sa, la, na, ns, ka, ks, rfl, S1, N.pick c1, N'.pick c1, hsub, fun v e H2 hv pe S2 c2 => ?_⟩
    walk_at "rd"
    rename_i q H3 n3 c3 e3
    have C2 : Ch [sa] H H2 := c1.trans c2
    exact k q [v] [.ed e] H3 (C2.dom q n3) e3 (by show 1 ≤ 1000; decide) (fun M _ => .cons ⟨hv.mono c3, pe⟩ .nil) (S2.at0 c3) (C2.step c3)
  walk_at "nx"
  walk_at "rd"
  refine itd (fun _ => ?_) (fun _ => ?_)
  · walk_at "rd"
    refine pickq (n := 5) S1 (by decide) (by decide) fun m H2 m0 m1 S2 c2 => ?_
    have C2 : Ch [sa] H H2 := c1.trans c2
    walk_at "rd"
    refine lcq walks_rng (fun D i ys H' => (∃ es : List Ed, Dts K H' ys (es.map Ed.dat) ∧ es.length = i ∧ ∀ e ∈ es, EdP (ns ++ xtra) e) ∧ StA K H' sa la ∧ Ch [sa] H H') (fun D H3 _ c _ => ⟨⟨[], .nil, rfl, by simp⟩, S2.at0 c, C2.step c⟩) (fun _ _ _ _ _ => trivial) ?_ ?_
    · rintro D i x ys H' nD hi rfl ⟨⟨es, h1, h2, h3⟩, S', C⟩ eD hl
      refine tt_yes (iteT ?_)
      walk_at "rd"
      refine ⟨sa, la, na, ns, ka, ks, rfl, S', N.pick C, N'.pick C, hsub, fun v e H3 hv pe S3 c3 => ?_⟩
      obtain ⟨nDs, nDl⟩ := S2.sne nD
      refine itemq (c3.at eD (by simp [nDs])) hl (by omega) fun H5 c5 e5 => ⟨⟨es ++ [e], ?_, by simp [h2], fun y hy => ?_⟩, S3.at c5 (by simp [nDs.symm]) (by simp [nDl.symm]), Ch.fresh1 (C.trans c3) c5 (C2.dom D nD)⟩
      · rw [List.map_append]
        exact ((h1.mono c3).append (.cons hv .nil)).mono c5
      · rcases List.mem_append.mp hy with h | h
        · exact h3 y h
        · rw [List.mem_singleton.mp h]; exact pe
    · rintro D ys H' nD ⟨⟨es, h1, h2, h3⟩, S', C⟩ eD _
      walk_at "rd"
      rename_i p5 H5 n5 c5 e5 q H6 n6 c6 e6
      have C5 : Ch [sa] H H5 := C.step c5
      refine k q [.ref p5] [.run es] H6 (C5.dom q n6) e6 (by show 1 ≤ 1000; decide) (fun M hM => .cons ⟨⟨p5, D, ys, rfl, c6.sqt (SqT.of e5), c6.at0 (c5.at0 eD), (h1.mono c5).mono c6, fun z => hM D z (C2.dom D nD)⟩, .inl (by omega), h3⟩ .nil) ((S'.at0 c5).at0 c6) (C5.step c6)
  walk_at "nx"
  walk_at "rd"
  refine itd (fun _ => ?_) (fun _ => ?_)
  · walk_at "rd"
    rename_i l3 H3 n3 c3 e3
    obtain ⟨z, δ, hz, hδ⟩ : ∃ z δ, atI [V.str (PySem.Str.ofString "undo"), V.str (PySem.Str.ofString "redo")] (if decide (11 < way) = true then 1 else 0) = some (.str z) ∧ (z = PySem.Str.ofString "undo" ∧ δ = Dd.undo ∨ z = PySem.Str.ofString "redo" ∧ δ = Dd.redo) := by
      by_cases h : 11 < way
      · rw [decide_eq_true h]; exact ⟨_, _, rfl, .inr ⟨rfl, rfl⟩⟩
      · rw [decide_eq_false h]; exact ⟨_, _, rfl, .inl ⟨rfl, rfl⟩⟩
    refine r_ixL (SqL.of e3) hz ?_
    walk_at "rd"
    rename_i p4 H4 n4 c4 e4 l5 H5 n5 c5 e5 l6 H6 n6 c6 e6
    refine pickq (n := 5) ((((S1.at0 c3).at0 c4).at0 c5).at0 c6) (by decide) (by decide) fun r7 H7 r70 r71 S7 c7 => ?_
    obtain ⟨v, hv, hm⟩ := atI_mem (xs := [V.int 1, .int 1, .int 2, .int 3, .int 5]) r70 r71
    refine r_ixL (SqL.of (c7.at e6 (by simp [((((S1.at0 c3).at0 c4).at0 c5).sne n6).1]))) hv ?_
    obtain ⟨m, rfl, hm0, hm1⟩ : ∃ m : Int, v = .int m ∧ 0 ≤ m ∧ m ≤ 1000 := by
      simp only [List.mem_cons, List.not_mem_nil, or_false] at hm
      rcases hm with rfl | rfl | rfl | rfl | rfl <;> exact ⟨_, rfl, by decide, by decide⟩
    have e57 := c7.at (c6.at0 e5) (by simp [(((S1.at0 c3).at0 c4).sne n5).1])
    refine r_mulD (K := K) e57 hm0 hm1 fun q H8 n8 c8 e8 => ?_
    have C7 : Ch [sa] H H7 := ((((c1.step c3).step c4).step c5).step c6).trans c7
    have e48 : SqT K H8 p4 [.str z] := c8.sqt (c7.sqt (c6.sqt (c5.sqt (SqT.of e4))))
    refine k q _ (List.replicate m.toNat δ) H8 (C7.dom q n8) e8 (by simp; omega) (fun M _ => All2.rep ?_ _) (S7.at0 c8) (C7.step c8)
    rcases hδ with ⟨rfl, rfl⟩ | ⟨rfl, rfl⟩
    · exact ⟨⟨p4, rfl, e48⟩, trivial⟩
    · exact ⟨⟨p4, rfl, e48⟩, trivial⟩
  walk_at "nx"
  walk_at "rd"
  refine pickq (n := 100) S1 (by decide) (by decide) fun r2 H2 r20 r21 S2 c2 => ?_
  walk_at "rd"
  rename_i l3 H3 n3 c3 e3
  refine pickq (n := 9) (S2.at0 c3) (by decide) (by decide) fun r4 H4 r40 r41 S4 c4 => ?_
  obtain ⟨v, hv, hm⟩ := atI_mem (xs := [V.int 0, .int 1, .int 2, .int 3, .int 5, .int 20, .int 100, .int 101, .int (1 + r2)]) r40 r41
  refine r_ixL (SqL.of (c4.at e3 (by simp [(S2.sne n3).1]))) hv ?_
  obtain ⟨m, rfl⟩ : ∃ m : Int, v = .int m := by
    simp only [List.mem_cons, List.not_mem_nil, or_false] at hm
    rcases hm with rfl | rfl | rfl | rfl | rfl | rfl | rfl | rfl | rfl <;> exact ⟨_, rfl⟩
  walk_at "rd"
  rename_i p5 H5 n5 c5 e5 q H6 n6 c6 e6
  have C5 : Ch [sa] H H5 := (((c1.trans c2).step c3).trans c4).step c5
  exact k q [.ref p5] [.keep m] H6 (C5.dom q n6) e6 (by show 1 ≤ 1000; decide) (fun M _ => .cons ⟨⟨p5, rfl, c6.sqt (SqT.of e5)⟩, trivial⟩ .nil) ((S4.at0 c5).at0 c6) (C5.step c6)
/-! Nine edits, drawn. -/
def spNine (K : PySem.W.Frag) : Sp := fun vs H Q _ => ∃ sa la na ns ka ks, vs = [.ref sa, .ref na, .ref ka] ∧ StA K H sa la ∧ NmA K H na sa la ns ∧ KnA K H ka sa ks ∧ (∀ z ∈ ks, z ∈ ns ++ xtra) ∧
  ∀ l H', H l = none → EL K (ns ++ xtra) H' l 9 → StA K H' sa la → Ch [sa] H H' → Q (.ref l) H'
theorem pure_nine {K : PySem.W.Frag} (vs : List V) (H : Hp) (Q : VK) (E : XK) (h : spNine K vs H Q E) : t__law_nine K (spPick K) (spSmall K) (spEditG K) { nx := fun _ H' => Q .non H', rt := Q } (L2.start N__law_nine vs) H := by
  obtain ⟨sa, la, na, ns, ka, ks, rfl, S, N, N', hsub, k⟩ := h
  have nl1 := N.l1
  have nl2 := N.l2
  unfold t__law_nine
  walk_at "rd"
  refine pickq (n := 2) S (by decide) (by decide) fun r1 H1 _ _ S1 c1 => ?_
  walk_at "rd"
  rename_i q H2 n2 c2 e2
  generalize decide (r1 = 0) = sure
  obtain ⟨nqs, nql⟩ := S1.sne n2
  have C2 : Ch [sa] H H2 := c1.step c2
  have nq : H q = none := c1.dom q n2
  refine forq walks_rng (fun i σ H' => ∃ v5 v6, σ = [some (.ref sa), some (.ref na), some (.ref ka), some (.bl sure), some (.ref q), v5, v6] ∧ EL K (ns ++ xtra) H' q i ∧ StA K H' sa la ∧ Ch [sa] H H') ⟨_, _, rfl, EL.nil e2, S1.at0 c2, C2⟩ (fun _ _ _ _ => trivial) ?_ ?_
  · rintro i x σ H' hi rfl ⟨v5, v6, rfl, L, S', C⟩
    have N1 := N.pick C
    walk_at "rd"
    refine itb (fun _ => ?_) (fun _ => ?_)
    · walk_at "rd"
      rename_i l5 H5 n5 c5 e5
      refine pickq (n := 2) (S'.at0 c5) (by decide) (by decide) fun r6 H6 r60 r61 S6 c6 => ?_
      refine kd_ix (c6.at e5 (by simp [(S'.sne n5).1])) r60 r61 fun kd hk => ?_
      have c56 : Ch [sa] H' H6 := c5.nil.trans c6
      have N6 := N.pick (C.trans c56)
      have L6 := L.at c56 (by simp [nqs])
      walk_at "nx"
      refine tg_name ?_
      walk_at "nx"
      refine ts_drop (te_app (te_var rfl (L6.apq ?_)))
      walk_at "rd"
      refine r_lenL N6.at_ ?_
      refine r_I (by rw [List.length_map]; omega) ?_
      obtain ⟨f1, f2⟩ := fmod_b (i := 0 + (i : Int)) (n := ((ns.map V.str).length : Int)) (by rw [List.length_map]; omega)
      refine nm_ix N6 f1 (by rw [List.length_map] at f2 ⊢; exact f2) fun z hz => ?_
      walk_at "rd"
      refine ⟨sa, la, na, ns, rfl, S6, N6, fun v d H7 hv tm S7 c7 => ?_⟩
      walk_at "rd"
      rename_i p8 H8 n8 c8 e8
      have D8 := ds_put (pool := ns ++ xtra) e8 (List.mem_append_left _ hz) hk (hv.mono c8) tm
      refine ((L6.at c7 (by simp [nqs])).at0 c8).snoc (e := .put z kd d) D8.at_ D8.dp (by omega) fun H9 c9 L9 => ?_
      exact ⟨_, _, rfl, L9, (S7.at0 c8).at c9 (by simp [nqs.symm]) (by simp [nql.symm]), Ch.fresh1 (((C.trans c56).trans c7).step c8) c9 nq⟩
    · refine ts_drop (te_app (te_var rfl (L.apq ?_)))
      walk_at "rd"
      refine ⟨sa, la, na, ns, ka, ks, rfl, S', N1, N'.pick C, hsub, fun v e H3 hv pe S3 c3 => ?_⟩
      walk_at "rd"
      refine (L.at c3 (by simp [nqs])).snoc hv pe (by omega) fun H9 c9 L9 => ?_
      exact ⟨_, _, rfl, L9, S3.at c9 (by simp [nqs.symm]) (by simp [nql.symm]), Ch.fresh1 (C.trans c3) c9 nq⟩
  · rintro σ H' ⟨v5, v6, rfl, L, S', C⟩
    walk_at "rd"
    exact k q H' nq L S' C
/-! A desk and a world, new; both walked while the script is drawn. -/
def MkQ (C : Addr) (sp : Sp) (E : XK) (Q : VK) (vs : List V) (H1 : Hp) : Prop := ∀ x dx, H1 x = Option.none → H1 dx = Option.none → dx ≠ x → sp (V.ref x :: vs) (upd (upd H1 dx (.own x)) x (.ins C dx [])) (fun v H2 => v = .non ∧ Q (.ref x) H2) E
theorem te_mk {C : Addr} {sp : Sp} {E : XK} {t : TA} {σ : L2.St} {H : Hp} {Q : VK} (k : t σ H fun vs H1 => MkQ C sp E Q vs H1) : StX.tMakeR C sp E t σ H Q := k
abbrev ms0 : MS := ⟨[], [], [], 20⟩
theorem mk_desk {K : PySem.W.Frag} {E : XK} {Q : VK} {n : Int} {H : Hp} (h1 : 1 ≤ n) (h4 : n ≤ 4) (k : ∀ dk F H2, (∀ a ∈ F, H a = none) → DkM K H2 F dk ms0 → Ch [] H H2 → Q (.ref dk) H2) : MkQ (gD K) (spDInit K) E Q [.int n] H := by
  intro x dx hx hdx hne
  have c1 : Ch [] H (upd H dx (.own x)) := Ch.new hdx
  have nx : upd H dx (.own x) x = none := by rw [upd_ne hne.symm]; exact hx
  have c2 : Ch [] H (upd (upd H dx (.own x)) x (.ins (gD K) dx [])) := c1.trans (Ch.new nx)
  refine ⟨x, dx, n, rfl, upd_same, h1, h4, fun pp dl ul H' npp ndl nul D c => ⟨rfl, k x _ H' (fun a ha => ?_) D (Ch.fresh1 c2 c hx)⟩⟩
  simp only [List.mem_cons, List.not_mem_nil, or_false] at ha
  rcases ha with rfl | rfl | rfl | rfl
  · exact hx
  · exact c2.dom _ ndl
  · exact c2.dom _ nul
  · exact c2.dom _ npp
/-- an empty desk and an empty world, made behind it -/
theorem new_both {K : PySem.W.Frag} {H Ha Hb Hc Hd : Hp} {F : List Addr} {dk wp wd wu wa : Addr} {pool : List Str} (D : DkM K H F dk ms0) (pw : ∀ z ∈ pool, isWord z = true) (pl : pool.length ≤ 15)
    (n1 : H wp = none) (c1 : Ch [] H Ha) (e1 : Ha wp = some (.dK [])) (n2 : Ha wd = none) (c2 : Ch [] Ha Hb) (e2 : Hb wd = some (.lst [])) (n3 : Hb wu = none) (c3 : Ch [] Hb Hc) (e3 : Hc wu = some (.lst [])) (n4 : Hc wa = none) (c4 : Ch [] Hc Hd) (e4 : Hd wa = some (.lst [.ref wp, .ref wd, .ref wu, .int 20])) :
    Both K Hd F [wa, wd, wu, wp] dk wa ms0 ms0 pool ∧ ∀ a ∈ [wa, wd, wu, wp], H a = none := by
  have g0 : GP pool [] := ⟨fun e he => by simp at he, .nil, fun z h => absurd rfl h, pw, pl⟩
  have pr : PR pool [] [] := ⟨⟨fun _ => rfl⟩, g0, g0⟩
  have f : ∀ a ∈ [wa, wd, wu, wp], H a = none := fun a ha => by
    simp only [List.mem_cons, List.not_mem_nil, or_false] at ha
    rcases ha with rfl | rfl | rfl | rfl
    · exact c1.dom _ (c2.dom _ (c3.dom _ n4))
    · exact c1.dom _ n2
    · exact c1.dom _ (c2.dom _ n3)
    · exact n1
  refine ⟨⟨D.at0 (((c1.trans c2).trans c3).trans c4), ⟨wp, wd, wu, [], [], rfl, ⟨e4, c4.at0 (c3.at0 e2), c4.at0 e3, ?_, ?_, ?_, by decide, by decide, by decide, by decide⟩, ⟨⟨[], c4.at0 (c3.at0 (c2.at0 e1)), .nil⟩, .nil⟩, .nil, .nil⟩, ⟨pr, .nil, .nil, rfl, by decide, by decide, by decide, by decide⟩, fun a ha hg => D.live a ha (f a hg)⟩, f⟩
  · exact (ne_of_none (c3.at0 e2) n4).symm
  · exact (ne_of_none e3 n4).symm
  · exact ne_of_none e2 n3
/-- both histories, and what stands apart from them -/
structure LI (K : PySem.W.Frag) (pool : List Str) (H : Hp) (dk wa : Addr) (X : List Addr) : Prop where
  ex : ∃ F G s t, Both K H F G dk wa s t pool ∧ ∀ x ∈ X, H x ≠ none ∧ x ∉ F ∧ x ∉ G
theorem Both.at0 {K : PySem.W.Frag} {H H' : Hp} {F G : List Addr} {dk wa : Addr} {s t : MS} {pool : List Str} (B : Both K H F G dk wa s t pool) (c : Ch [] H H') : Both K H' F G dk wa s t pool := ⟨B.D.at0 c, B.W.at0 c, B.r, B.dj⟩
section
variable {K : PySem.W.Frag} {pool : List Str} {H H' : Hp} {dk wa sa : Addr} {X : List Addr}
theorem LI.at0 (L : LI K pool H dk wa X) (c : Ch [] H H') : LI K pool H' dk wa X := by
  obtain ⟨F, G, s, t, B, hX⟩ := L
  exact ⟨F, G, s, t, B.at0 c, fun x hx => ⟨fun z => (hX x hx).1 (c.dom x z), (hX x hx).2⟩⟩
theorem LI.pick (L : LI K pool H dk wa X) (h : sa ∈ X) (c : Ch [sa] H H') : LI K pool H' dk wa X := by
  obtain ⟨F, G, s, t, B, hX⟩ := L
  have hs := hX sa h
  refine ⟨F, G, s, t, ⟨B.D.at c fun a ha => ?_, B.W.at c fun a ha => ?_, B.r, B.dj⟩, fun x hx => ⟨fun z => (hX x hx).1 (c.dom x z), (hX x hx).2⟩⟩
  · intro z; rw [List.mem_singleton.mp z] at ha; exact hs.2.1 ha
  · intro z; rw [List.mem_singleton.mp z] at ha; exact hs.2.2 ha
theorem LI.walked {q : Addr} {ws : List V} {δs : List Dd} {Q : VK} {E : XK} (L : LI K pool H dk wa X) (h : sa ∈ X) (nq : H q = none) (c : Ch [sa] H H') (eq : H' q = some (.lst ws)) (lw : ws.length ≤ 1000) (hd : ∀ M, (∀ a ∈ M, H a ≠ none) → All2 (fun v δ => DeedX K H' M v δ ∧ DdP pool δ) ws δs)
    (k : ∀ M H'', LI K pool H'' dk wa X → Ch M H' H'' → (∀ x ∈ X, x ∉ M) → Q (.bl true) H'') : spWalked K [.ref dk, .ref wa, .ref q] H' Q E := by
  have L' := L.pick h c
  obtain ⟨F, G, s, t, B, hX⟩ := L
  have hs := hX sa h
  have live : ∀ a ∈ F ++ G, H a ≠ none := fun a ha => (List.mem_append.mp ha).elim (B.D.live a) (B.W.live a)
  have B' : Both K H' F G dk wa s t pool := ⟨B.D.at c fun a ha z => hs.2.1 (by rw [← List.mem_singleton.mp z]; exact ha), B.W.at c fun a ha z => hs.2.2 (by rw [← List.mem_singleton.mp z]; exact ha), B.r, B.dj⟩
  refine ⟨F, G, dk, wa, s, t, pool, q, ws, δs, rfl, B', eq, fun z => live q z nq, lw, hd (F ++ G) live, fun F' G' s' t' H'' B'' c'' eF eG => k (F ++ G) H'' ⟨F', G', s', t', B'', fun x hx => ⟨fun z => (hX x hx).1 (c.dom x (c''.dom x z)), fun z => ?_, fun z => ?_⟩⟩ c'' fun x hx z => ?_⟩
  · exact (eF x z).elim (hX x hx).2.1 fun w => (hX x hx).1 (c.dom x w)
  · exact (eG x z).elim (hX x hx).2.2 fun w => (hX x hx).1 (c.dom x w)
  · exact (List.mem_append.mp z).elim (hX x hx).2.1 (hX x hx).2.2
end
/-! ### _law_hundred -/
structure NmB (K : PySem.W.Frag) (H : Hp) (na sa la : Addr) (ns : List Str) : Prop where
  a : NmA K H na sa la ns
  l : ns.length ≤ 2
def spHundred (K : PySem.W.Frag) : Sp := fun vs H Q _ => ∃ sa la na ns, vs = [.ref sa, .ref na] ∧ StA K H sa la ∧ NmB K H na sa la ns ∧ ∀ H', Q (.bl true) H'
/-- the last part: both lists of deeds behind the puts -/
theorem pure_hundred {K : PySem.W.Frag} (vs : List V) (H : Hp) (Q : VK) (E : XK) (h : spHundred K vs H Q E) : t__law_hundred K (spPick K) (spDInit K) (spWalked K) { nx := fun _ H' => Q .non H', rt := Q } (L2.start N__law_hundred vs) H := by
  obtain ⟨sa, la, na, ns, rfl, S, ⟨N, nl⟩, k⟩ := h
  have nl1 := N.l1
  unfold t__law_hundred
  walk_at "rd"
  refine pickq (n := 60) S (by decide) (by decide) fun r1 H1 r10 r11 S1 c1 => ?_
  walk_at "rd"
  rename_i l2 H2 n2 c2 e2
  refine pickq (n := 4) (S1.at0 c2) (by decide) (by decide) fun r3 H3 r30 r31 S3 c3 => ?_
  obtain ⟨v, hv, hm⟩ := atI_mem (xs := [V.int 100, .int 99, .int 100, .int (40 + r1)]) r30 r31
  refine r_ixL (SqL.of (c3.at e2 (by simp [(S1.sne n2).1]))) hv ?_
  obtain ⟨lim, rfl, l0, l1⟩ : ∃ m : Int, v = .int m ∧ 0 ≤ m ∧ m ≤ 100 := by
    simp only [List.mem_cons, List.not_mem_nil, or_false] at hm
    rcases hm with rfl | rfl | rfl | rfl
    · exact ⟨_, rfl, by decide, by decide⟩
    · exact ⟨_, rfl, by decide, by decide⟩
    · exact ⟨_, rfl, by decide, by decide⟩
    · exact ⟨_, rfl, by omega, by omega⟩
  have C3 : Ch [sa] H H3 := (c1.step c2).trans c3
  walk_at "nx"
  refine tg_name ?_
  walk_at "nx"
  refine ts_seq (ts_asg (te_mk ?_))
  walk_at "rd"
  refine pickq (n := 4) S3 (by decide) (by decide) fun r4 H4 r40 r41 S4 c4 => ?_
  walk_at "rd"
  have C4 : Ch [sa] H H4 := C3.trans c4
  refine mk_desk (by omega) (by omega) fun dk F H5 nF D5 c5 => ?_
  have S5 := S4.at0 c5
  have N5 := (N.pick C4).at c5 (by simp)
  walk_at "rd"
  rename_i wp H6 n6 c6 e6 wd H7 n7 c7 e7 wu H8 n8 c8 e8 wa H9 n9 c9 e9 p10 H10 n10 c10 e10 q H11 n11 c11 e11
  obtain ⟨B9, fG⟩ := new_both (pool := ns) D5 N.wd (by omega) n6 c6 e6 n7 c7 e7 n8 c8 e8 n9 c9 e9
  have c59 : Ch [] H5 H9 := ((c6.trans c7).trans c8).trans c9
  have lv : ∀ x o, H4 x = some o → x ∉ F ∧ x ∉ [wa, wd, wu, wp] := fun x o e => ⟨fun z => (by rw [nF x z] at e; cases e), fun z => (by have w := fG x z; rw [c5.at0 e] at w; cases w)⟩
  have sA : ∃ o, H4 sa = some o := by obtain ⟨_, _, _, _, _, e, _⟩ := S4; exact ⟨_, e⟩
  obtain ⟨osa, esa⟩ := sA
  have L9 : LI K ns H9 dk wa [sa] := ⟨F, _, ms0, ms0, B9, fun x hx => by
    rw [List.mem_singleton.mp hx]
    exact ⟨by rw [c59.at0 (c5.at0 esa)]; simp, lv sa _ esa⟩⟩
  have S9 := S5.at0 c59
  have N9 := N5.at c59 (by simp)
  have D11 : DL K ns H11 q 1 := ⟨[.ref p10], [.keep lim], e11, Nat.le_refl _, .cons ⟨⟨p10, rfl, c11.sqt (SqT.of e10)⟩, trivial, trivial⟩ .nil⟩
  have nq9 : H9 q = none := c10.dom q n11
  have nqs : q ≠ sa := (S9.sne nq9).1
  have nql : q ≠ la := (S9.sne nq9).2
  refine pickq (n := 9) ((S9.at0 c10).at0 c11) (by decide) (by decide) fun r12 H12 r120 r121 S12 c12 => ?_
  have C12 : Ch [sa] H9 H12 := (c10.trans c11).nil.trans c12
  walk_at "rd"
  refine forq walks_rng (fun i σ H' => ∃ v6, σ = [some (.ref sa), some (.ref na), some (.int lim), some (.ref dk), some (.ref wa), some (.ref q), v6] ∧ DL K ns H' q (1 + i) ∧ StA K H' sa la ∧ Ch [sa] H9 H') ⟨_, rfl, D11.at c12 (by simp [nqs]), S12, C12⟩ (fun _ _ _ _ => trivial) ?_ ?_
  · rintro i x σ H' hi rfl ⟨v6, rfl, D, S', C⟩
    have N' := N9.pick C
    walk_at "nx"
    refine tg_name ?_
    refine ts_drop (te_app (te_var rfl (D.apq ?_)))
    walk_at "rd"
    refine r_lenL N'.at_ ?_
    walk_at "rd"
    refine pickq S' (by rw [List.length_map]; omega) (by rw [List.length_map]; omega) fun r13 H13 r130 r131 S13 c13 => ?_
    rw [List.length_map] at r131
    refine nm_ix (N'.pick c13) r130 r131 fun z hz => ?_
    walk_at "rd"
    rename_i p7 H14 n14 c14 e14
    refine ((D.at c13 (by simp [nqs])).at0 c14).snoc (δ := .ed (.put z sAim (.int (0 + (i : Int))))) (ds_put e14 hz (by decide +kernel) (.int _) (tm_int (by omega) (by omega))) (by omega) fun H15 c15 D15 => ?_
    exact ⟨_, rfl, D15, (S13.at0 c14).at c15 (by simp [nqs.symm]) (by simp [nql.symm]), Ch.fresh1 ((C.trans c13).step c14) c15 nq9⟩
  · rintro σ H13 ⟨v6, rfl, D13, S13, C13⟩
    obtain ⟨ws, δs, ew, lw, hw⟩ := D13
    walk_at "rd"
    rename_i p14 H14 n14 c14 e14 l15 H15 n15 c15 e15
    refine r_mulD (K := K) e15 (by omega) (by omega) fun l16 H16 n16 c16 e16 => ?_
    refine r_addL (c16.at0 (c15.at0 (c14.at0 ew))) e16 (by simp; omega) fun l17 H17 n17 c17 e17 => ?_
    walk_at "rd"
    rename_i p18 H18 n18 c18 e18 l19 H19 n19 c19 e19
    refine r_mulD (K := K) e19 (by omega) (by omega) fun l20 H20 n20 c20 e20 => ?_
    refine r_addL (c20.at0 (c19.at0 (c18.at0 e17))) e20 (by simp; omega) fun l21 H21 n21 c21 e21 => ?_
    walk_at "rd"
    have c13_14 : Ch [] H13 H14 := c14
    have a17 : Ch [] H14 H17 := (c15.trans c16).trans c17
    have a21 : Ch [] H18 H21 := (c19.trans c20).trans c21
    have c13_21 : Ch [] H13 H21 := ((c14.trans a17).trans c18).trans a21
    have u1 : SqT K H21 p14 [.str (PySem.Str.ofString "undo")] := a21.sqt (c18.sqt (a17.sqt (SqT.of e14)))
    have u2 : SqT K H21 p18 [.str (PySem.Str.ofString "redo")] := a21.sqt (SqT.of e18)
    have nq : H9 l21 = none := C13.dom _ (c14.dom _ (a17.dom _ (c18.dom _ (c19.dom _ (c20.dom _ n21)))))
    refine L9.walked (sa := sa) (δs := (δs ++ List.replicate (lim + 1).toNat Dd.undo) ++ List.replicate (lim + 1).toNat Dd.redo) (by simp) nq (C13.step c13_21) e21 (by simp; omega) (fun M _ => ?_) fun M H'' L'' c'' hM => ?_
    · refine All2.append (All2.append (hw.imp fun _ _ x => ⟨(x.mono c13_21).at_.simp x.sm, x.dp⟩) (All2.rep ?_ _)) (All2.rep ?_ _)
      · exact ⟨⟨p14, rfl, u1⟩, trivial⟩
      · exact ⟨⟨p18, rfl, u2⟩, trivial⟩
    · walk_at "rd"
      exact k H''
/-! The law itself. -/
structure LS (K : PySem.W.Frag) (H : Hp) (sa la na : Addr) (ns : List Str) (dk wa : Addr) : Prop where
  S : StA K H sa la
  N : NmA K H na sa la ns
  L : LI K (ns ++ xtra) H dk wa [sa, la, na]
section
variable {K : PySem.W.Frag} {H H' : Hp} {sa la na dk wa : Addr} {ns : List Str}
theorem LS.at0 (L : LS K H sa la na ns dk wa) (c : Ch [] H H') : LS K H' sa la na ns dk wa := ⟨L.S.at0 c, L.N.at c (by simp), L.L.at0 c⟩
theorem LS.pick (L : LS K H sa la na ns dk wa) (S : StA K H' sa la) (c : Ch [sa] H H') : LS K H' sa la na ns dk wa := ⟨S, L.N.pick c, L.L.pick (by simp) c⟩
theorem LS.go {q : Addr} {ws : List V} {δs : List Dd} {Q : VK} {E : XK} (L : LS K H sa la na ns dk wa) (nq : H q = none) (eq : H' q = some (.lst ws)) (lw : ws.length ≤ 1000) (hd : ∀ M, (∀ a ∈ M, H a ≠ none) → All2 (fun v δ => DeedX K H' M v δ ∧ DdP (ns ++ xtra) δ) ws δs) (S : StA K H' sa la) (c : Ch [sa] H H')
    (k : ∀ H'', LS K H'' sa la na ns dk wa → Q (.bl true) H'') : spWalked K [.ref dk, .ref wa, .ref q] H' Q E :=
  L.L.walked (sa := sa) (by simp) nq c eq lw hd fun M H'' L'' c'' hM => k H'' ⟨S.at c'' (hM sa (by simp)) (hM la (by simp)), (L.N.pick c).at c'' (hM na (by simp)), L''⟩
/-- the names that the papers have, in order -/
theorem te_known {σ : L2.St} {Q : VK} (L : LS K H sa la na ns dk wa) (h4 : σ[4]? = some (some (.ref wa))) (k : ∀ ka ks H2, H ka = none → Ch [] H H2 → KnA K H2 ka sa ks → (∀ z ∈ ks, z ∈ ns ++ xtra) → Q (.ref ka) H2) :
    (tCB (rSortedS K) (tCons (tCB (rListG K) (tCons (tOp (rIx K) (tVar 4) (tC (.int 0))) tNil)) tNil)) σ H Q := by
  obtain ⟨F, G, s, t, B, hX⟩ := L.L
  obtain ⟨wp, wd, wu, wdn, wun, eG, A, hwp, hwd, hwu⟩ := B.W
  obtain ⟨⟨l, hl, he⟩, nd⟩ := hwp
  have lb := B.r.m.gb.len
  refine te_cb (te_cons (te_cb (te_cons (te_op (te_var h4 (te_c (r_ixL (SqL.of A.ob) rfl (te_nil ?_))))))))
  refine r_listD (.inl hl) fun l2 H2 n2 c2 e2 => ?_
  rw [he.keyV] at e2
  refine te_nil (r_sortS (SqL.of e2) (by rw [List.length_map]; omega) fun zs l3 H3 hp3 hs3 n3 c3 e3 => ?_)
  have C3 : Ch [] H H3 := c2.trans c3
  refine k l3 zs H3 (c2.dom _ n3) C3 ⟨SqL.of e3, ((L.S.at0 c2).sne n3).1, fun z hz => ?_, ?_⟩ fun z hz => ?_
  · exact B.r.m.gb.pw z (B.r.m.gb.keys z (mem_look.mp (hp3.mem_iff.mp hz)))
  · rw [hp3.length_eq, List.length_map]; exact lb
  · exact B.r.m.gb.keys z (mem_look.mp (hp3.mem_iff.mp hz))
/-- how many steps: world[1], world[2] -/
theorem te_count {σ : L2.St} {Q : VK} {i : Int} (L : LS K H sa la na ns dk wa) {H1 : Hp} (c : Ch [] H H1) (hi : i = 1 ∨ i = 2) (h4 : σ[4]? = some (some (.ref wa))) (k : ∀ n : Nat, n ≤ 100 → Q (.int (n : Int)) H1) :
    (tCB (rLenG K) (tCons (tOp (rIx K) (tVar 4) (tC (.int i))) tNil)) σ H1 Q := by
  obtain ⟨F, G, s, t, B, hX⟩ := L.L
  obtain ⟨wp, wd, wu, wdn, wun, eG, A, hwp, hwd, hwu⟩ := B.W
  rcases hi with rfl | rfl
  · refine te_cb (te_cons (te_op (te_var h4 (te_c (r_ixL (SqL.of (c.at0 A.ob)) rfl (te_nil (r_lenL (SqL.of (c.at0 A.dls)) (k _ ?_))))))))
    rw [List.length_map]; exact A.dz
  · refine te_cb (te_cons (te_op (te_var h4 (te_c (r_ixL (SqL.of (c.at0 A.ob)) rfl (te_nil (r_lenL (SqL.of (c.at0 A.uls)) (k _ ?_))))))))
    rw [List.length_map]; exact A.uz
end
def spLaw (K : PySem.W.Frag) : Sp := fun vs H Q _ => ∃ (a : Addr) (ns : List Int), vs = [.ref a] ∧ SqL K H a (ns.map V.int) ∧ ns.length ≤ 63 ∧ ∀ H', Q (.bl true) H'
theorem cut_two (ns : List Str) : cutV (ns.map V.str) none (some 2) = (ns.take 2).map V.str := by
  unfold cutV
  rw [HT.sIx_none, show (some 2 : Option Int) = some ((2 : Nat) : Int) from rfl, HT.sIx_nat, List.drop_zero, Nat.sub_zero, List.map_take, List.length_map]
  by_cases h : 2 ≤ ns.length
  · rw [Nat.min_eq_left h]
  · rw [Nat.min_eq_right (by omega), List.take_of_length_le (by rw [List.length_map]; exact Nat.le_refl _), List.take_of_length_le (by rw [List.length_map]; omega)]
theorem pure_law {K : PySem.W.Frag} (vs : List V) (H : Hp) (Q : VK) (E : XK) (h : spLaw K vs H Q E) :
    t_law K (spStart K) (spDInit K) (spPick K) (spPool K) (spStands K) (spWalked K) (spOpening K) (spDeeds K) (spNine K) (spHundred K) { nx := fun _ H' => Q .non H', rt := Q } (L2.start N_law vs) H := by
  obtain ⟨a, zs, rfl, hS, hl, k⟩ := h
  unfold t_law
  walk_at "rd"
  refine ⟨a, zs, rfl, hS, hl, fun sa la H1 ns1 nl1 S1 c1 => ?_⟩
  walk_at "nx"
  refine tg_name ?_
  walk_at "nx"
  refine ts_seq (ts_asg (te_mk ?_))
  walk_at "rd"
  refine pickq (n := 4) S1 (by decide) (by decide) fun r2 H2 r20 r21 S2 c2 => ?_
  walk_at "rd"
  refine mk_desk (by omega) (by omega) fun dk F H3 nF D3 c3 => ?_
  walk_at "rd"
  have esa : ∃ o, H2 sa = some o := by obtain ⟨_, _, _, _, _, e, _⟩ := S2; exact ⟨_, e⟩
  have ela : ∃ o, H2 la = some o := by obtain ⟨_, _, _, _, _, _, e, _⟩ := S2; exact ⟨_, e⟩
  obtain ⟨osa, esa⟩ := esa
  obtain ⟨ola, ela⟩ := ela
  have oF : ∀ x o, H2 x = some o → x ∉ F := fun x o e z => (by rw [nF x z] at e; cases e)
  refine ⟨sa, la, rfl, S2.at0 c3, fun na ns H4 n4 e4 hw h1 h7 S4 c4 => ?_⟩
  have D4 : DkM K H4 F dk ms0 := D3.at c4 fun a ha z => by rw [List.mem_singleton.mp z] at ha; exact oF sa _ esa ha
  have nF4 : na ∉ F := fun z => D3.live na z n4
  have N4 : NmA K H4 na sa la ns := ⟨e4, ((S2.at0 c3).sne n4).1, ((S2.at0 c3).sne n4).2, hw, h1, by omega⟩
  have wx : ∀ z ∈ ns ++ xtra, isWord z = true := fun z hz => (List.mem_append.mp hz).elim (hw z) (xtra_wd z)
  walk_at "rd"
  rename_i wp H6 n6 c6 e6 wd H7 n7 c7 e7 wu H8 n8 c8 e8 wa H9 n9 c9 e9
  obtain ⟨B9, fG⟩ := new_both (pool := ns ++ xtra) D4 wx (by rw [List.length_append]; show ns.length + 3 ≤ 15; omega) n6 c6 e6 n7 c7 e7 n8 c8 e8 n9 c9 e9
  have c49 : Ch [] H4 H9 := ((c6.trans c7).trans c8).trans c9
  have oG : ∀ x, H4 x ≠ none → x ∉ [wa, wd, wu, wp] := fun x e z => e (fG x z)
  have lv : ∀ x, H2 x ≠ none → H4 x ≠ none := fun x e z => e (c3.dom x (c4.dom x z))
  have L9 : LS K H9 sa la na ns dk wa := by
    refine ⟨S4.at0 c49, N4.at c49 (by simp), ⟨F, _, ms0, ms0, B9, fun x hx => ?_⟩⟩
    have key : H4 x ≠ none ∧ x ∉ F := by
      simp only [List.mem_cons, List.not_mem_nil, or_false] at hx
      rcases hx with rfl | rfl | rfl
      · exact ⟨lv _ (by rw [esa]; simp), oF _ _ esa⟩
      · exact ⟨lv _ (by rw [ela]; simp), oF _ _ ela⟩
      · exact ⟨by rw [e4]; simp, nF4⟩
    exact ⟨fun z => key.1 (c49.dom x z), key.2, oG x key.1⟩
  refine ⟨F, _, dk, wa, ms0, ms0, ns ++ xtra, rfl, B9.D, B9.W, B9.r, B9.dj, fun H10 c10 => ?_⟩
  have L10 := L9.at0 c10
  walk_at "rd"
  refine itF (by rfl) ?_
  walk_at "rd"
  refine ⟨sa, la, na, ns, rfl, L10.S, L10.N, fun q ws δs H11 nq eq lw hd S11 c11 => ?_⟩
  walk_at "rd"
  refine L10.go nq eq lw hd S11 c11 fun H12 L12 => ?_
  walk_at "rd"
  refine itF (by rfl) ?_
  walk_at "rd"
  refine pickq (n := 14) L12.S (by decide) (by decide) fun r13 H13 r130 r131 S13 c13 => ?_
  have L13 := L12.pick S13 c13
  walk_at "rd"
  refine forq walks_rng (fun i σ H' => ∃ v5, σ = [some (.ref a), some (.ref sa), some (.ref dk), some (.ref na), some (.ref wa), v5] ∧ LS K H' sa la na ns dk wa) ⟨_, rfl, L13⟩ (fun _ _ _ _ => trivial) ?_ ?_
  · rintro i x σ H' hi rfl ⟨v5, rfl, L⟩
    walk_at "nx"
    refine tg_name ?_
    refine ts_if (tt_not (tt_b (te_callR (te_cons (te_var rfl (te_cons (te_var rfl (te_cons (te_callR (te_cons (te_var rfl (te_cons (te_var rfl (te_cons (te_known L rfl fun ka ks H2 nk ck Kn hk => ?_)))))))))))))))
    have L2' := L.at0 ck
    walk_at "rd"
    refine ⟨sa, la, na, ns, ka, ks, rfl, L2'.S, L2'.N, Kn, hk, fun q ws δs H3 nq eq lw hd S3 c3 => ?_⟩
    walk_at "rd"
    refine L2'.go nq eq lw hd S3 c3 fun H12 L12 => ?_
    walk_at "rd"
    refine itF (by rfl) ?_
    walk_at "nx"
    exact ⟨_, rfl, L12⟩
  · rintro σ H14 ⟨v5, rfl, L14⟩
    obtain ⟨F14, G14, s14, t14, B14, hX14⟩ := L14.L
    obtain ⟨wp14, wd14, wu14, wdn14, wun14, eG14, A14, hwp14, hwd14, hwu14⟩ := B14.W
    have ob14 := A14.ob
    have dl14 := A14.dls
    have dz14 : (wdn14.map V.ref).length ≤ 100 := by rw [List.length_map]; exact A14.dz
    walk_at "rd"
    rename_i p15 H15 n15 c15 e15 l16 H16 n16 c16 e16
    generalize (wdn14.map V.ref).length = m14 at dz14 ⊢
    refine r_mulD (K := K) e16 (by omega) (by omega) fun q17 H17 n17 c17 e17 => ?_
    walk_at "rd"
    have C17 : Ch [] H14 H17 := (c15.trans c16).trans c17
    have L17 := L14.at0 C17
    refine L14.go (δs := List.replicate ((m14 : Int) + 1).toNat Dd.undo) (c15.dom _ (c16.dom _ n17)) e17 (by simp; omega) (fun M _ => All2.rep ⟨⟨p15, rfl, c17.sqt (c16.sqt (SqT.of e15))⟩, trivial⟩ _) L17.S C17.nil fun H18 L18 => ?_
    walk_at "rd"
    refine itF (by rfl) ?_
    walk_at "nx"
    obtain ⟨F18, G18, s18, t18, B18, hX18⟩ := L18.L
    obtain ⟨wp18, wd18, wu18, wdn18, wun18, eG18, A18, hwp18, hwd18, hwu18⟩ := B18.W
    have ob18 := A18.ob
    have ul18 := A18.uls
    have uz18 : (wun18.map V.ref).length ≤ 100 := by rw [List.length_map]; exact A18.uz
    walk_at "rd"
    rename_i p19 H19 n19 c19 e19 l20 H20 n20 c20 e20
    generalize (wun18.map V.ref).length = m18 at uz18 ⊢
    refine r_mulD (K := K) e20 (by omega) (by omega) fun q21 H21 n21 c21 e21 => ?_
    walk_at "rd"
    have C21 : Ch [] H18 H21 := (c19.trans c20).trans c21
    have L21 := L18.at0 C21
    refine L18.go (δs := List.replicate ((m18 : Int) + 1).toNat Dd.redo) (c19.dom _ (c20.dom _ n21)) e21 (by simp; omega) (fun M _ => All2.rep ⟨⟨p19, rfl, c21.sqt (c20.sqt (SqT.of e19))⟩, trivial⟩ _) L21.S C21.nil fun H22 L22 => ?_
    walk_at "rd"
    refine itF (by rfl) ?_
    walk_at "nx"
    refine ts_seq (ts_if (tt_not (tt_b (te_callR (te_cons (te_var rfl (te_cons (te_var rfl (te_cons (te_lst (te_cons (te_tup (te_cons (te_c (te_cons (te_callR (te_cons (te_var rfl (te_cons (te_var rfl (te_cons (te_known L22 rfl fun ka ks H23 nk ck Kn hk => ?_))))))))))))))))))))))
    have L23 := L22.at0 ck
    walk_at "rd"
    refine ⟨sa, la, na, ns, ka, ks, rfl, L23.S, L23.N, Kn, hk, fun l24 H24 n24 E24 S24 c24 => ?_⟩
    have L24 := L23.pick S24 c24
    obtain ⟨evs, es, e24, d24, l9, p24⟩ := E24
    walk_at "rd"
    rename_i p25 H25 n25 c25 e25 q26 H26 n26 c26 e26
    have C26 : Ch [sa] H23 H26 := (c24.step c25).step c26
    refine L23.go (δs := [.run es]) (c24.dom _ (c25.dom _ n26)) e26 (by show 1 ≤ 1000; decide) (fun M hM => .cons ⟨⟨p25, l24, evs, rfl, c26.sqt (SqT.of e25), c26.at0 (c25.at0 e24), (d24.mono c25).mono c26, fun z => hM _ z n24⟩, .inr l9, p24⟩ .nil) ((L24.at0 c25).at0 c26).S C26 fun H27 L27 => ?_
    walk_at "rd"
    refine itF (by rfl) ?_
    walk_at "nx"
    walk_at "rd"
    refine pickq (n := 99) L27.S (by decide) (by decide) fun r28 H28 r280 r281 S28 c28 => ?_
    have L28 := L27.pick S28 c28
    walk_at "rd"
    rename_i p29 H29 n29 c29 e29 q30 H30 n30 c30 e30
    have C30 : Ch [] H28 H30 := c29.trans c30
    refine L28.go (δs := [.keep (-1 - r28)]) (c29.dom _ n30) e30 (by show 1 ≤ 1000; decide) (fun M hM => .cons ⟨⟨p29, rfl, c30.sqt (SqT.of e29)⟩, trivial⟩ .nil) (L28.at0 C30).S C30.nil fun H31 L31 => ?_
    walk_at "rd"
    refine itF (by rfl) ?_
    walk_at "nx"
    walk_at "rd"
    refine pickq (n := 8) L31.S (by decide) (by decide) fun r32 H32 r320 r321 S32 c32 => ?_
    have L32 := L31.pick S32 c32
    walk_at "rd"
    refine itd (fun _ => ?_) (fun _ => ?_)
    · walk_at "rd"
      exact k _
    · walk_at "rd"
      refine te_nopart ?_
      walk_at "rd"
      refine r_slA L32.N.at_ fun l33 H33 n33 c33 e33 => ?_
      walk_at "rd"
      rw [cut_two] at e33
      refine ⟨sa, la, l33, ns.take 2, rfl, L32.S.at0 c33, ⟨⟨e33, (L32.S.sne n33).1, (L32.S.sne n33).2, fun z hz => hw z (List.mem_of_mem_take hz), ?_, ?_⟩, ?_⟩, fun H' => k H'⟩
      · rw [List.length_take]; omega
      · rw [List.length_take]; omega
      · rw [List.length_take]; omega
end K9
namespace K9
open PySem PySem.Spec PyProof.Rows L2 L2H HotX
/-! Printed by kjoin.py: each def keeps its promise. -/
/-- how many values a promise takes -/
local macro_rules | `(tactic| walk_at "len") => `(tactic| (intro vs H Q E h; repeat (first | (obtain ⟨hq, _⟩ := h; subst hq; rfl) | (obtain ⟨_, h⟩ := h))))
theorem spLt0 {P : Program} {w : World} {K : PySem.W.Frag} {mg : Str → Option Value} {base : Heap} {CX : CXT} {k : Nat} {f : Addr} {g : Nat → Sp} : FnR P w K mg base CX k f (spLt g 0) := fun A outer s H us vs Q E hr e0 r h => absurd h.1 (by decide)
theorem spLtS {P : Program} {w : World} {K : PySem.W.Frag} {mg : Str → Option Value} {base : Heap} {CX : CXT} {k m : Nat} {f : Addr} {g : Nat → Sp} (F : FnR P w K mg base CX k f (g m)) : FnR P w K mg base CX k f (spLt g (m + 1)) := F.imp fun vs H Q E h => h.2
section
variable {P : Program} {w : World} {K : PySem.W.Frag} {mg : Str → Option Value} {base : Heap} (T : TT K mg)
include T
theorem ok_InvalidTerm___init__ : FnR P w K mg base CX0 1 (He.ma K (He.ga K "InvalidTerm") "__init__") (spI1 K "InvalidTerm" "path") := by
  exact FnOk.toR (mkO (k := 0) (sp := spI1 K "InvalidTerm" "path") (fun_InvalidTerm___init__ T) sc_InvalidTerm___init__ (fun _ _ _ _ _ _ us hl => match us, hl with | [_, _], _ => rfl) (by walk_at "len") (fun cdv A outer s H vs Q E hr h => ⟨_, PSs.nox (b_InvalidTerm___init__ T hr ), pure_init rfl (ot_InvalidTerm T) vs H Q E h⟩))
theorem ok_UnknownName___init__ : FnR P w K mg base CX0 1 (He.ma K (He.ga K "UnknownName") "__init__") (spI1 K "UnknownName" "name") := by
  exact FnOk.toR (mkO (k := 0) (sp := spI1 K "UnknownName" "name") (fun_UnknownName___init__ T) sc_UnknownName___init__ (fun _ _ _ _ _ _ us hl => match us, hl with | [_, _], _ => rfl) (by walk_at "len") (fun cdv A outer s H vs Q E hr h => ⟨_, PSs.nox (b_UnknownName___init__ T hr ), pure_init rfl (ot_UnknownName T) vs H Q E h⟩))
theorem ok_NameTaken___init__ : FnR P w K mg base CX0 1 (He.ma K (He.ga K "NameTaken") "__init__") (spI1 K "NameTaken" "name") := by
  exact FnOk.toR (mkO (k := 0) (sp := spI1 K "NameTaken" "name") (fun_NameTaken___init__ T) sc_NameTaken___init__ (fun _ _ _ _ _ _ us hl => match us, hl with | [_, _], _ => rfl) (by walk_at "len") (fun cdv A outer s H vs Q E hr h => ⟨_, PSs.nox (b_NameTaken___init__ T hr ), pure_init rfl (ot_NameTaken T) vs H Q E h⟩))
theorem ok_is_word : FnR P w K mg base CX0 1 (He.ga K "is_word") (spIsWord K) := by
  exact FnOk.toR (mkO (k := 0) (sp := spIsWord K) (fun_is_word T) sc_is_word (fun _ _ _ _ _ _ us hl => match us, hl with | [_], _ => rfl) (by walk_at "len") (fun cdv A outer s H vs Q E hr h => ⟨_, PSs.nox (b_is_word T hr ), pure_is_word vs H Q E h⟩))
theorem ok_is_number : FnR P w K mg base CX0 1 (He.ga K "is_number") (spIsNumber K) := by
  exact FnOk.toR (mkO (k := 0) (sp := spIsNumber K) (fun_is_number T) sc_is_number (fun _ _ _ _ _ _ us hl => match us, hl with | [_], _ => rfl) (by walk_at "len") (fun cdv A outer s H vs Q E hr h => ⟨_, PSs.nox (b_is_number T hr ), pure_is_number vs H Q E h⟩))
theorem ok_write_part : ∀ m : Nat, FnR P w K mg base (L2N.CX P w) (m + 3) (He.ga K "write_part") (spWP K m)
  | 0 => FnOk.toR (mkO (k := 2) (sp := spWP K 0) (fun_write_part T) sc_write_part (fun _ _ _ _ _ _ us hl => match us, hl with | [_, _], _ => rfl) (by walk_at "len") (fun cdv A outer s H vs Q E hr h => ⟨_, b_write_part T hr (ok_is_word T) (by omega) (ok_is_number T) (by omega) (ok_InvalidTerm___init__ T) (by omega) (spLt0 (k := 2)) (by omega), pure_write_part 0 vs H Q E h⟩))
  | m + 1 => FnOk.toR (mkO (k := m + 1 + 2) (sp := spWP K (m + 1)) (fun_write_part T) sc_write_part (fun _ _ _ _ _ _ us hl => match us, hl with | [_, _], _ => rfl) (by walk_at "len") (fun cdv A outer s H vs Q E hr h => ⟨_, b_write_part T hr (ok_is_word T) (by omega) (ok_is_number T) (by omega) (ok_InvalidTerm___init__ T) (by omega) (spLtS (ok_write_part m)) (by omega), pure_write_part (m + 1) vs H Q E h⟩))
theorem ok_write_term : FnR P w K mg base (L2N.CX P w) 9 (He.ga K "write_term") (spWT K 5) := by
  exact FnOk.toR (mkO (k := 8) (sp := spWT K 5) (fun_write_term T) sc_write_term (fun _ _ _ _ _ _ us hl => match us, hl with | [_], _ => rfl) (by walk_at "len") (fun cdv A outer s H vs Q E hr h => ⟨_, b_write_term T hr (ok_write_part T 5) (by omega), pure_write_term 5 vs H Q E h⟩))
theorem ok_is_use : FnR P w K mg base CX0 2 (He.ga K "is_use") (spIsUse K) := by
  exact FnOk.toR (mkO (k := 1) (sp := spIsUse K) (fun_is_use T) sc_is_use (fun _ _ _ _ _ _ us hl => match us, hl with | [_], _ => rfl) (by walk_at "len") (fun cdv A outer s H vs Q E hr h => ⟨_, PSs.nox (b_is_use T hr (ok_is_word T) (by omega)), pure_is_use T vs H Q E h⟩))
theorem ok_nesting : ∀ m : Nat, FnR P w K mg base CX0 (m + 3) (He.ga K "nesting") (spNest K m)
  | 0 => FnOk.toR (mkO (k := 2) (sp := spNest K 0) (fun_nesting T) sc_nesting (fun _ _ _ _ _ _ us hl => match us, hl with | [_, _], _ => rfl) (by walk_at "len") (fun cdv A outer s H vs Q E hr h => ⟨_, PSs.nox (b_nesting T hr (ok_is_use T) (by omega) (spLt0 (k := 2)) (by omega)), pure_nesting 0 vs H Q E h⟩))
  | m + 1 => FnOk.toR (mkO (k := m + 1 + 2) (sp := spNest K (m + 1)) (fun_nesting T) sc_nesting (fun _ _ _ _ _ _ us hl => match us, hl with | [_, _], _ => rfl) (by walk_at "len") (fun cdv A outer s H vs Q E hr h => ⟨_, PSs.nox (b_nesting T hr (ok_is_use T) (by omega) (spLtS (ok_nesting m)) (by omega)), pure_nesting (m + 1) vs H Q E h⟩))
theorem ok_put_paper : FnR P w K mg base (L2N.CX P w) 10 (He.ga K "put_paper") (spPutP K) := by
  exact FnOk.toR (mkO (k := 9) (sp := spPutP K) (fun_put_paper T) sc_put_paper (fun _ _ _ _ _ _ us hl => match us, hl with | [_, _, _, _], _ => rfl) (by walk_at "len") (fun cdv A outer s H vs Q E hr h => ⟨_, b_put_paper T hr (ok_is_word T) (by omega) (ok_write_term T) (by omega) (ok_nesting T 5) (by omega), pure_put_paper T vs H Q E h⟩))
theorem ok_drop_paper : FnR P w K mg base (L2N.CX P w) 3 (He.ga K "drop_paper") (spDropP K) := by
  exact FnOk.toR (mkO (k := 2) (sp := spDropP K) (fun_drop_paper T) sc_drop_paper (fun _ _ _ _ _ _ us hl => match us, hl with | [_, _], _ => rfl) (by walk_at "len") (fun cdv A outer s H vs Q E hr h => ⟨_, b_drop_paper T hr (ok_UnknownName___init__ T) (by omega), pure_drop_paper T vs H Q E h⟩))
theorem ok_replace_name : ∀ m : Nat, FnR P w K mg base CX0 (m + 1) (He.ga K "replace_name") (spRen K m)
  | 0 => FnOk.toR (mkO (k := 0) (sp := spRen K 0) (fun_replace_name T) sc_replace_name (fun _ _ _ _ _ _ us hl => match us, hl with | [_, _, _], _ => rfl) (by walk_at "len") (fun cdv A outer s H vs Q E hr h => ⟨_, PSs.nox (b_replace_name T hr (spLt0 (k := 0)) (by omega)), pure_replace_name 0 vs H Q E h⟩))
  | m + 1 => FnOk.toR (mkO (k := m + 1 + 0) (sp := spRen K (m + 1)) (fun_replace_name T) sc_replace_name (fun _ _ _ _ _ _ us hl => match us, hl with | [_, _, _], _ => rfl) (by walk_at "len") (fun cdv A outer s H vs Q E hr h => ⟨_, PSs.nox (b_replace_name T hr (spLtS (ok_replace_name m)) (by omega)), pure_replace_name (m + 1) vs H Q E h⟩))
theorem ok_rename_paper : FnR P w K mg base (L2N.CX P w) 8 (He.ga K "rename_paper") (spRenP K) := by
  exact FnOk.toR (mkO (k := 7) (sp := spRenP K) (fun_rename_paper T) sc_rename_paper (fun _ _ _ _ _ _ us hl => match us, hl with | [_, _, _], _ => rfl) (by walk_at "len") (fun cdv A outer s H vs Q E hr h => ⟨_, b_rename_paper T hr (ok_UnknownName___init__ T) (by omega) (ok_is_word T) (by omega) (ok_NameTaken___init__ T) (by omega) (ok_replace_name T 5) (by omega), pure_rename_paper T vs H Q E h⟩))
theorem ok_Desk___init__ : FnR P w K mg base (L2N.CX P w) 1 (He.ma K (He.ga K "Desk") "__init__") (spDInit K) := by
  exact FnOk.toR (mkO (k := 0) (sp := spDInit K) (fun_Desk___init__ T) sc_Desk___init__ (fun _ _ _ _ _ _ us hl => match us, hl with | [_, _], _ => rfl) (by walk_at "len") (fun cdv A outer s H vs Q E hr h => ⟨_, b_Desk___init__ T hr , pure_dinit T vs H Q E h⟩))
theorem okf_Desk_names : ∃ fd, FnOk P w K mg base CX0 1 (propB K "Desk" "names" 0) fd ["self"] (spNamesM K) ∧ Binds K fd ["self"] [] := mkO (k := 0) (sp := spNamesM K) (fun_Desk_names T) sc_Desk_names (fun _ _ _ _ _ _ us hl => match us, hl with | [_], _ => rfl) (by walk_at "len") (fun cdv A outer s H vs Q E hr h => ⟨_, PSs.nox (b_Desk_names T hr ), pure_names T vs H Q E h⟩)
theorem okf_Desk_steps : ∃ fd, FnOk P w K mg base CX0 1 (propB K "Desk" "steps" 0) fd ["self"] (spStepsM K) ∧ Binds K fd ["self"] [] := mkO (k := 0) (sp := spStepsM K) (fun_Desk_steps T) sc_Desk_steps (fun _ _ _ _ _ _ us hl => match us, hl with | [_], _ => rfl) (by walk_at "len") (fun cdv A outer s H vs Q E hr h => ⟨_, PSs.nox (b_Desk_steps T hr ), pure_steps T vs H Q E h⟩)
theorem okf_Desk_undone : ∃ fd, FnOk P w K mg base CX0 1 (propB K "Desk" "undone" 0) fd ["self"] (spUndoneM K) ∧ Binds K fd ["self"] [] := mkO (k := 0) (sp := spUndoneM K) (fun_Desk_undone T) sc_Desk_undone (fun _ _ _ _ _ _ us hl => match us, hl with | [_], _ => rfl) (by walk_at "len") (fun cdv A outer s H vs Q E hr h => ⟨_, PSs.nox (b_Desk_undone T hr ), pure_undone T vs H Q E h⟩)
theorem okf_Desk_limit : ∃ fd, FnOk P w K mg base CX0 1 (propB K "Desk" "limit" 0) fd ["self"] (spLimitM K) ∧ Binds K fd ["self"] [] := mkO (k := 0) (sp := spLimitM K) (fun_Desk_limit T) sc_Desk_limit (fun _ _ _ _ _ _ us hl => match us, hl with | [_], _ => rfl) (by walk_at "len") (fun cdv A outer s H vs Q E hr h => ⟨_, PSs.nox (b_Desk_limit T hr ), pure_limit T vs H Q E h⟩)
theorem ok_Desk_limit_set : FnR P w K mg base (L2N.CX P w) 1 (propB K "Desk" "limit" 1) (spLimM K) := by
  exact (FnOk.toR (mkO (k := 0) (sp := spLimSet K) (fun_Desk_limit_set T) sc_Desk_limit_set (fun _ _ _ _ _ _ us hl => match us, hl with | [_, _], _ => rfl) (by walk_at "len") (fun cdv A outer s H vs Q E hr h => ⟨_, b_Desk_limit_set T hr , pure_limset T vs H Q E h⟩))).imp lim_m
theorem ok_Desk__paper : FnR P w K mg base (L2N.CX P w) 3 (He.ma K (He.ga K "Desk") "_paper") (spPaper K) := by
  exact FnOk.toR (mkO (k := 2) (sp := spPaper K) (fun_Desk__paper T) sc_Desk__paper (fun _ _ _ _ _ _ us hl => match us, hl with | [_, _], _ => rfl) (by walk_at "len") (fun cdv A outer s H vs Q E hr h => ⟨_, b_Desk__paper T hr (ok_UnknownName___init__ T) (by omega), pure_paper T vs H Q E h⟩))
theorem ok_Desk_kind_of : FnR P w K mg base (L2N.CX P w) 4 (He.ma K (He.ga K "Desk") "kind_of") (spKindOf K) := by
  exact FnOk.toR (mkO (k := 3) (sp := spKindOf K) (fun_Desk_kind_of T) sc_Desk_kind_of (fun _ _ _ _ _ _ us hl => match us, hl with | [_, _], _ => rfl) (by walk_at "len") (fun cdv A outer s H vs Q E hr h => ⟨_, b_Desk_kind_of T hr (ok_Desk__paper T) (by omega), pure_kind_of T vs H Q E h⟩))
theorem ok_Desk_term_of : FnR P w K mg base (L2N.CX P w) 4 (He.ma K (He.ga K "Desk") "term_of") (spTermOf K) := by
  exact FnOk.toR (mkO (k := 3) (sp := spTermOf K) (fun_Desk_term_of T) sc_Desk_term_of (fun _ _ _ _ _ _ us hl => match us, hl with | [_, _], _ => rfl) (by walk_at "len") (fun cdv A outer s H vs Q E hr h => ⟨_, b_Desk_term_of T hr (ok_Desk__paper T) (by omega), pure_term_of T vs H Q E h⟩))
theorem ok_Desk__take_step : FnR P w K mg base CX0 1 (He.ma K (He.ga K "Desk") "_take_step") (spTakeM K) := by
  exact (FnOk.toR (mkO (k := 0) (sp := spTake K) (fun_Desk__take_step T) sc_Desk__take_step (fun _ _ _ _ _ _ us hl => match us, hl with | [_, _], _ => rfl) (by walk_at "len") (fun cdv A outer s H vs Q E hr h => ⟨_, PSs.nox (b_Desk__take_step T hr ), pure_take T vs H Q E h⟩))).imp take_m
theorem ok_Desk_put : FnR P w K mg base (L2N.CX P w) 11 (He.ma K (He.ga K "Desk") "put") (spPutM K) := by
  exact FnOk.toR (mkO (k := 10) (sp := spPutM K) (fun_Desk_put T) sc_Desk_put (fun _ _ _ _ _ _ us hl => match us, hl with | [_, _, _, _], _ => rfl) (by walk_at "len") (fun cdv A outer s H vs Q E hr h => ⟨_, b_Desk_put T hr (ok_Desk__take_step T) (by omega) (ok_put_paper T) (by omega), pure_dput T vs H Q E h⟩))
theorem ok_Desk_drop : FnR P w K mg base (L2N.CX P w) 4 (He.ma K (He.ga K "Desk") "drop") (spDropM K) := by
  exact FnOk.toR (mkO (k := 3) (sp := spDropM K) (fun_Desk_drop T) sc_Desk_drop (fun _ _ _ _ _ _ us hl => match us, hl with | [_, _], _ => rfl) (by walk_at "len") (fun cdv A outer s H vs Q E hr h => ⟨_, b_Desk_drop T hr (ok_Desk__take_step T) (by omega) (ok_drop_paper T) (by omega), pure_ddrop T vs H Q E h⟩))
theorem ok_Desk_rename : FnR P w K mg base (L2N.CX P w) 9 (He.ma K (He.ga K "Desk") "rename") (spRenM K) := by
  exact FnOk.toR (mkO (k := 8) (sp := spRenM K) (fun_Desk_rename T) sc_Desk_rename (fun _ _ _ _ _ _ us hl => match us, hl with | [_, _, _], _ => rfl) (by walk_at "len") (fun cdv A outer s H vs Q E hr h => ⟨_, b_Desk_rename T hr (ok_Desk__take_step T) (by omega) (ok_rename_paper T) (by omega), pure_dren T vs H Q E h⟩))
theorem ok_Desk_undo : FnR P w K mg base (L2N.CX P w) 1 (He.ma K (He.ga K "Desk") "undo") (spUndoM K) := by
  exact (FnOk.toR (mkO (k := 0) (sp := spUndo K) (fun_Desk_undo T) sc_Desk_undo (fun _ _ _ _ _ _ us hl => match us, hl with | [_], _ => rfl) (by walk_at "len") (fun cdv A outer s H vs Q E hr h => ⟨_, b_Desk_undo T hr , pure_undo T vs H Q E h⟩))).imp undo_m
theorem ok_Desk_redo : FnR P w K mg base (L2N.CX P w) 1 (He.ma K (He.ga K "Desk") "redo") (spRedoM K) := by
  exact (FnOk.toR (mkO (k := 0) (sp := spRedo K) (fun_Desk_redo T) sc_Desk_redo (fun _ _ _ _ _ _ us hl => match us, hl with | [_], _ => rfl) (by walk_at "len") (fun cdv A outer s H vs Q E hr h => ⟨_, b_Desk_redo T hr , pure_redo T vs H Q E h⟩))).imp redo_m
theorem ok_edited : FnR P w K mg base (L2N.CX P w) 11 (He.ga K "edited") (spEdit K) := by
  exact FnOk.toR (mkO (k := 10) (sp := spEdit K) (fun_edited T) sc_edited (fun _ _ _ _ _ _ us hl => match us, hl with | [_, _], _ => rfl) (by walk_at "len") (fun cdv A outer s H vs Q E hr h => ⟨_, b_edited T hr (ok_put_paper T) (by omega) (ok_drop_paper T) (by omega) (ok_rename_paper T) (by omega), pure_edited T vs H Q E h⟩))
theorem ok_Desk_keep : FnR P w K mg base (L2N.CX P w) 4 (He.ma K (He.ga K "Desk") "keep") (spLimM K) := by
  exact FnOk.toR (mkO (k := 3) (sp := spLimM K) (fun_Desk_keep T) sc_Desk_keep (fun _ _ _ _ _ _ us hl => match us, hl with | [_, _], _ => rfl) (by walk_at "len") (fun cdv A outer s H vs Q E hr h => ⟨_, b_Desk_keep T hr (ok_Desk_limit_set T) (by omega), pure_keep T vs H Q E h⟩))
--RUN
theorem okh_EditFailed___init__ : ∃ fd, FnH P w K mg base CX0 1 (He.ma K (He.ga K "EditFailed") "__init__") fd ["self", "index"] (spI1 K "EditFailed" "index") ∧ Binds K fd ["self", "index"] [] :=
  mkH (k := 0) (sp := spI1 K "EditFailed" "index") (fun_EditFailed___init__ T) sc_EditFailed___init__ (fun _ _ _ _ _ _ us hl => match us, hl with | [_, _], _ => rfl) (by walk_at "len")
    (fun cdv A outer s H vs Q E p hot hr h => ⟨_, pss_one (ps_ost (pv 0) (pv 1)), pure_init (N := N_EditFailed___init__) rfl (ot_EditFailed T) vs H Q E h⟩)
theorem ok_Desk_run : FnR P w K mg base (L2.CX P w) 12 (He.ma K (He.ga K "Desk") "run") (spRunM K) := by
  obtain ⟨fd, F⟩ := fun_Desk_run T
  obtain ⟨oc, od, dV, kV, doc, pm, an, cdv, ct, osl, rfl, lk, hcd, hD, _⟩ := F.ex
  obtain rfl : dV = .none := hD.elim (fun h => h.2) fun h => absurd rfl h.1
  refine FnR.imp (sp := spRunS K) ?_ run_m
  exact StX.fn_star (k := 11) (ps := ["self"]) (pv := "edits") (sp := spRunB K) lk hcd sc_Desk_run StX.cxUp (fun us rest hl => match us, hl, rest with | [_], _, [] => by rfl | [_], _, _ :: _ => by rfl)
    (fun A outer s H vs Q E hr h => ⟨_, b_Desk_run T hr (okh_EditFailed___init__ T) (by omega) (ok_edited T) (by omega) (ok_Desk__take_step T) (by omega), pure_run T vs H Q E h⟩)
theorem ok__law_start : FnR P w K mg base CX0 1 (He.ga K "_law_start") (spStart K) := by
  exact FnOk.toR (mkO (k := 0) (sp := spStart K) (fun__law_start T) sc__law_start (fun _ _ _ _ _ _ us hl => match us, hl with | [_], _ => rfl) (by walk_at "len") (fun cdv A outer s H vs Q E hr h => ⟨_, PSs.nox (b__law_start T hr ), pure_start vs H Q E h⟩))
theorem ok__law_pick : FnR P w K mg base CX0 1 (He.ga K "_law_pick") (spPick K) := by
  exact FnOk.toR (mkO (k := 0) (sp := spPick K) (fun__law_pick T) sc__law_pick (fun _ _ _ _ _ _ us hl => match us, hl with | [_, _], _ => rfl) (by walk_at "len") (fun cdv A outer s H vs Q E hr h => ⟨_, PSs.nox (b__law_pick T hr ), pure_pick vs H Q E h⟩))
theorem ok__law_same : ∀ m : Nat, FnR P w K mg base CX0 (m + 1) (He.ga K "_law_same") (spSame K m)
  | 0 => FnOk.toR (mkO (k := 0) (sp := spSame K 0) (fun__law_same T) sc__law_same (fun _ _ _ _ _ _ us hl => match us, hl with | [_, _], _ => rfl) (by walk_at "len") (fun cdv A outer s H vs Q E hr h => ⟨_, PSs.nox (b__law_same T hr (spLt0 (k := 0)) (by omega)), pure_same 0 vs H Q E h⟩))
  | m + 1 => FnOk.toR (mkO (k := m + 1 + 0) (sp := spSame K (m + 1)) (fun__law_same T) sc__law_same (fun _ _ _ _ _ _ us hl => match us, hl with | [_, _], _ => rfl) (by walk_at "len") (fun cdv A outer s H vs Q E hr h => ⟨_, PSs.nox (b__law_same T hr (spLtS (ok__law_same m)) (by omega)), pure_same (m + 1) vs H Q E h⟩))
theorem ok__law_names : FnR P w K mg base CX0 2 (He.ga K "_law_names") (spNames K) := by
  exact FnOk.toR (mkO (k := 1) (sp := spNames K) (fun__law_names T) sc__law_names (fun _ _ _ _ _ _ us hl => match us, hl with | [_, _], _ => rfl) (by walk_at "len") (fun cdv A outer s H vs Q E hr h => ⟨_, PSs.nox (b__law_names T hr (ok__law_pick T) (by omega)), pure_names_ vs H Q E h⟩))
theorem ok__law_pool : FnR P w K mg base CX0 3 (He.ga K "_law_pool") (spPool K) := by
  exact FnOk.toR (mkO (k := 2) (sp := spPool K) (fun__law_pool T) sc__law_pool (fun _ _ _ _ _ _ us hl => match us, hl with | [_], _ => rfl) (by walk_at "len") (fun cdv A outer s H vs Q E hr h => ⟨_, PSs.nox (b__law_pool T hr (ok__law_pick T) (by omega) (ok__law_names T) (by omega)), pure_pool vs H Q E h⟩))
theorem ok__law_small_term : FnR P w K mg base CX0 2 (He.ga K "_law_small_term") (spSmall K) := by
  exact FnOk.toR (mkO (k := 1) (sp := spSmall K) (fun__law_small_term T) sc__law_small_term (fun _ _ _ _ _ _ us hl => match us, hl with | [_, _], _ => rfl) (by walk_at "len") (fun cdv A outer s H vs Q E hr h => ⟨_, PSs.nox (b__law_small_term T hr (ok__law_pick T) (by omega)), pure_small vs H Q E h⟩))
theorem ok__law_edit : FnR P w K mg base CX0 3 (He.ga K "_law_edit") (spEditG K) := by
  exact FnOk.toR (mkO (k := 2) (sp := spEditG K) (fun__law_edit T) sc__law_edit (fun _ _ _ _ _ _ us hl => match us, hl with | [_, _, _], _ => rfl) (by walk_at "len") (fun cdv A outer s H vs Q E hr h => ⟨_, PSs.nox (b__law_edit T hr (ok__law_pick T) (by omega) (ok__law_small_term T) (by omega)), pure_edit vs H Q E h⟩))
theorem ok__law_opening : FnR P w K mg base CX0 3 (He.ga K "_law_opening") (spOpening K) := by
  exact FnOk.toR (mkO (k := 2) (sp := spOpening K) (fun__law_opening T) sc__law_opening (fun _ _ _ _ _ _ us hl => match us, hl with | [_, _], _ => rfl) (by walk_at "len") (fun cdv A outer s H vs Q E hr h => ⟨_, PSs.nox (b__law_opening T hr (ok__law_pick T) (by omega) (ok__law_small_term T) (by omega)), pure_opening vs H Q E h⟩))
theorem ok__law_deeds : FnR P w K mg base CX0 4 (He.ga K "_law_deeds") (spDeeds K) := by
  exact FnOk.toR (mkO (k := 3) (sp := spDeeds K) (fun__law_deeds T) sc__law_deeds (fun _ _ _ _ _ _ us hl => match us, hl with | [_, _, _], _ => rfl) (by walk_at "len") (fun cdv A outer s H vs Q E hr h => ⟨_, PSs.nox (b__law_deeds T hr (ok__law_pick T) (by omega) (ok__law_edit T) (by omega)), pure_deeds vs H Q E h⟩))
theorem ok__law_reason : FnR P w K mg base CX0 1 (He.ga K "_law_reason") (spReason K) := by
  exact FnOk.toR (mkO (k := 0) (sp := spReason K) (fun__law_reason T) sc__law_reason (fun _ _ _ _ _ _ us hl => match us, hl with | [_, _], _ => rfl) (by walk_at "len") (fun cdv A outer s H vs Q E hr h => ⟨_, PSs.nox (b__law_reason T hr ), pure_reason vs H Q E h⟩))
theorem ok__law_renamed : ∀ m : Nat, FnR P w K mg base CX0 (m + 1) (He.ga K "_law_renamed") (spRen K m)
  | 0 => FnOk.toR (mkO (k := 0) (sp := spRen K 0) (fun__law_renamed T) sc__law_renamed (fun _ _ _ _ _ _ us hl => match us, hl with | [_, _, _], _ => rfl) (by walk_at "len") (fun cdv A outer s H vs Q E hr h => ⟨_, PSs.nox (b__law_renamed T hr (spLt0 (k := 0)) (by omega)), pure_renamed 0 vs H Q E h⟩))
  | m + 1 => FnOk.toR (mkO (k := m + 1 + 0) (sp := spRen K (m + 1)) (fun__law_renamed T) sc__law_renamed (fun _ _ _ _ _ _ us hl => match us, hl with | [_, _, _], _ => rfl) (by walk_at "len") (fun cdv A outer s H vs Q E hr h => ⟨_, PSs.nox (b__law_renamed T hr (spLtS (ok__law_renamed m)) (by omega)), pure_renamed (m + 1) vs H Q E h⟩))
theorem ok__law_edited : FnR P w K mg base CX0 7 (He.ga K "_law_edited") (spEditedW K) := by
  exact FnOk.toR (mkO (k := 6) (sp := spEditedW K) (fun__law_edited T) sc__law_edited (fun _ _ _ _ _ _ us hl => match us, hl with | [_, _], _ => rfl) (by walk_at "len") (fun cdv A outer s H vs Q E hr h => ⟨_, PSs.nox (b__law_edited T hr (ok__law_renamed T 5) (by omega)), pure_editedW vs H Q E h⟩))
theorem ok__law_step : FnR P w K mg base CX0 1 (He.ga K "_law_step") (spStepM K) := by
  exact FnOk.toR (mkO (k := 0) (sp := spStepM K) (fun__law_step T) sc__law_step (fun _ _ _ _ _ _ us hl => match us, hl with | [_, _], _ => rfl) (by walk_at "len") (fun cdv A outer s H vs Q E hr h => ⟨_, PSs.nox (b__law_step T hr ), pure_step vs H Q E h⟩))
theorem ok__law_run_due : FnR P w K mg base CX0 8 (He.ga K "_law_run_due") (spRunDue K) := by
  exact FnOk.toR (mkO (k := 7) (sp := spRunDue K) (fun__law_run_due T) sc__law_run_due (fun _ _ _ _ _ _ us hl => match us, hl with | [_, _], _ => rfl) (by walk_at "len") (fun cdv A outer s H vs Q E hr h => ⟨_, PSs.nox (b__law_run_due T hr (ok__law_reason T) (by omega) (ok__law_edited T) (by omega) (ok__law_step T) (by omega)), pure_run_due vs H Q E h⟩))
theorem ok__law_due : FnR P w K mg base CX0 9 (He.ga K "_law_due") (spDue K) := by
  exact FnOk.toR (mkO (k := 8) (sp := spDue K) (fun__law_due T) sc__law_due (fun _ _ _ _ _ _ us hl => match us, hl with | [_, _], _ => rfl) (by walk_at "len") (fun cdv A outer s H vs Q E hr h => ⟨_, PSs.nox (b__law_due T hr (ok__law_run_due T) (by omega) (ok__law_reason T) (by omega) (ok__law_step T) (by omega) (ok__law_edited T) (by omega)), pure_due vs H Q E h⟩))
theorem ok__law_run_told : FnR P w K mg base (L2.CX P w) 13 (He.ga K "_law_run_told") (spRunT K) := by
  exact FnOk.toR (mkO (k := 12) (sp := spRunT K) (fun__law_run_told T) sc__law_run_told (fun _ _ _ _ _ _ us hl => match us, hl with | [_, _], _ => rfl) (by walk_at "len") (fun cdv A outer s H vs Q E hr h => ⟨_, b__law_run_told T hr (ok_Desk_run T) (by omega), pure_run_told T vs H Q E h⟩))
theorem ok__law_edit_told : FnR P w K mg base (L2N.CX P w) 12 (He.ga K "_law_edit_told") (spEditT K) := by
  exact FnOk.toR (mkO (k := 11) (sp := spEditT K) (fun__law_edit_told T) sc__law_edit_told (fun _ _ _ _ _ _ us hl => match us, hl with | [_, _], _ => rfl) (by walk_at "len") (fun cdv A outer s H vs Q E hr h => ⟨_, b__law_edit_told T hr (ok_Desk_put T) (by omega) (ok_Desk_drop T) (by omega) (ok_Desk_rename T) (by omega), pure_edit_told T vs H Q E h⟩))
theorem ok__law_told : FnR P w K mg base CX0 14 (He.ga K "_law_told") (spTold K) := by
  exact FnOk.toR (mkO (k := 13) (sp := spTold K) (fun__law_told T) sc__law_told (fun _ _ _ _ _ _ us hl => match us, hl with | [_, _], _ => rfl) (by walk_at "len") (fun cdv A outer s H vs Q E hr h => ⟨_, PSs.nox (b__law_told T hr (ok__law_run_told T) (by omega) (ok_Desk_undo T) (by omega) (ok_Desk_redo T) (by omega) (ok_Desk_keep T) (by omega) (ok__law_edit_told T) (by omega)), pure_told T vs H Q E h⟩))
theorem ok__law_stands : FnR P w K mg base CX0 9 (He.ga K "_law_stands") (spStands K) := by
  obtain ⟨fdDesk_names, oDesk_names, nDesk_names⟩ := okf_Desk_names (P := P) (w := w) (base := base) T
  obtain ⟨fdDesk_limit, oDesk_limit, nDesk_limit⟩ := okf_Desk_limit (P := P) (w := w) (base := base) T
  obtain ⟨fdDesk_undone, oDesk_undone, nDesk_undone⟩ := okf_Desk_undone (P := P) (w := w) (base := base) T
  obtain ⟨fdDesk_steps, oDesk_steps, nDesk_steps⟩ := okf_Desk_steps (P := P) (w := w) (base := base) T
  exact FnOk.toR (mkO (k := 8) (sp := spStands K) (fun__law_stands T) sc__law_stands (fun _ _ _ _ _ _ us hl => match us, hl with | [_, _], _ => rfl) (by walk_at "len") (fun cdv A outer s H vs Q E hr h => ⟨_, PSs.nox (b__law_stands T hr (ok__law_same T 7) (by omega) oDesk_names nDesk_names (by omega) oDesk_limit nDesk_limit (by omega) oDesk_undone nDesk_undone (by omega) oDesk_steps nDesk_steps (by omega) (ok_Desk_term_of T) (by omega) (ok_Desk_kind_of T) (by omega)), pure_stands T vs H Q E h⟩))
theorem ok__law_walked : FnR P w K mg base CX0 15 (He.ga K "_law_walked") (spWalked K) := by
  exact FnOk.toR (mkO (k := 14) (sp := spWalked K) (fun__law_walked T) sc__law_walked (fun _ _ _ _ _ _ us hl => match us, hl with | [_, _, _], _ => rfl) (by walk_at "len") (fun cdv A outer s H vs Q E hr h => ⟨_, PSs.nox (b__law_walked T hr (ok__law_due T) (by omega) (ok__law_same T 7) (by omega) (ok__law_told T) (by omega) (ok__law_stands T) (by omega)), pure_walked vs H Q E h⟩))
theorem ok__law_nine : FnR P w K mg base CX0 4 (He.ga K "_law_nine") (spNine K) := by
  exact FnOk.toR (mkO (k := 3) (sp := spNine K) (fun__law_nine T) sc__law_nine (fun _ _ _ _ _ _ us hl => match us, hl with | [_, _, _], _ => rfl) (by walk_at "len") (fun cdv A outer s H vs Q E hr h => ⟨_, PSs.nox (b__law_nine T hr (ok__law_pick T) (by omega) (ok__law_small_term T) (by omega) (ok__law_edit T) (by omega)), pure_nine vs H Q E h⟩))
theorem ok__law_hundred : FnR P w K mg base CX0 16 (He.ga K "_law_hundred") (spHundred K) := by
  exact FnOk.toR (mkO (k := 15) (sp := spHundred K) (fun__law_hundred T) sc__law_hundred (fun _ _ _ _ _ _ us hl => match us, hl with | [_, _], _ => rfl) (by walk_at "len") (fun cdv A outer s H vs Q E hr h => ⟨_, PSs.nox (b__law_hundred T hr (ok__law_pick T) (by omega) (ok_Desk___init__ T) (by omega) (ok__law_walked T) (by omega)), pure_hundred vs H Q E h⟩))
theorem okF_law {fd : FuncData} (F : FunD K "law" q_law (defArgs s_law) (defBody s_law) (defScope s_law) [] [] (He.ga K "law") fd) : FnOk P w K mg base CX0 17 (He.ga K "law") fd ["script"] (spLaw K) :=
  F.ok (k := 16) sc_law (by walk_at "len") (fun cdv A outer s H vs Q E hr h => ⟨_, PSs.nox (b_law T hr (ok__law_start T) (by omega) (ok_Desk___init__ T) (by omega) (ok__law_pick T) (by omega) (ok__law_pool T) (by omega) (ok__law_stands T) (by omega) (ok__law_walked T) (by omega) (ok__law_opening T) (by omega) (ok__law_deeds T) (by omega) (ok__law_nine T) (by omega) (ok__law_hundred T) (by omega)), pure_law vs H Q E h⟩)
end
end K9
set_option maxHeartbeats 0
section
open PySem PySem.W PySem.Calls PyProof.Rows
/-! The end: the head's run and the law's promise. -/
theorem PySem.Challenge.cw_aimstoldback_k88_whole_steps_undone_holds : PySem.Challenge.rw_aimstoldback_k88_whole_steps_undone.Holds := by
  w_on; o_law
  refine HandSHeadRun.head_any (r := OpenLaw.row PySem.Challenge.rw_aimstoldback_k88_whole_steps_undone) (q := view (OpenLaw.row PySem.Challenge.rw_aimstoldback_k88_whole_steps_undone).prog [66]) (H := K9.hk) (ob := K9.ob) (M := 12000) (loose := K9.l1 ++ K9.l2) (d := HandSHeadRun.topDef (OpenLaw.row PySem.Challenge.rw_aimstoldback_k88_whole_steps_undone).prog 66) (kwd := []) K9.ob_eq
    (by kernel_rfl) (fun s => by kernel_rfl) K9.run_head (by kernel_rfl) (by kernel_rfl) (by kernel_rfl) (by rfl) (by first | assumption | decide +kernel) (by decide +kernel) ⟨rfl, rfl, rfl, rfl, rfl, by decide +kernel⟩ ?hw ?hc
  case hw => w_witness2
  case hc =>
    refine L2.walk_ofE (l := PySem.Challenge.rw_aimstoldback_k88_whole_steps_undone) (n := 63) (k := 17) (x := "script") (CX := L2.CX0) rfl (by decide) (by kernel_rfl) ⟨rfl, by decide, by decide⟩ ?F (fun _ _ _ _ z => z)
    intro w mg fa h Y G hmg0
    obtain ⟨K, KX, c⟩ := Y
    have T : K9.TT K mg := ⟨⟨h, KX, G⟩, c⟩
    have hmg : mg ("law" : PySem.Str) = some (.ref fa) := by
      have e : (HandSHeadRun.topDef (OpenLaw.row PySem.Challenge.rw_aimstoldback_k88_whole_steps_undone).prog 66).name = ("law" : PySem.Str) := by kernel_rfl
      rw [← e]
      exact hmg0
    have e := hmg.symm.trans (K9.g_law T)
    cases e
    obtain ⟨fd, F⟩ := K9.fun_law T
    have b := L2.FunD.bindsA (ps := ["script"]) F fun _ _ _ _ _ _ us hl => match us, hl with | [_], _ => rfl
    exact ⟨K, fd, K9.spLaw K, KX, fun s v => b s [v] rfl, fun H a ns hl _ hS => ⟨a, ns, rfl, hS, hl, fun _ => rfl⟩, fun base _ _ => K9.okF_law T F⟩
end
