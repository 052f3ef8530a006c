import PyProof.Rows.All
import Wide.All
import OpenK.AllK
import Wide.FinOn
import KE.KStateDown
import Lean
import HandS.ForMost
import HandS.Flow
import HandS.IsInst
import HandS.Defaults
import HandS.Head0
import HandS.Head1
import HandS.Head2
import HandS.HeadEnd
import HandS.HeadHook1
import HandS.HeadHook2
import HandS.Evl
import HandS.Walk
import HandS.Replace
import KE.IntTextLaws
import PySem.Challenge.RW_filerights_k05_integers_of_texts
set_option Elab.async false
set_option linter.all false
set_option maxRecDepth 100000
set_option maxHeartbeats 4000000
namespace Fr
open PySem PySem.Spec PyProof.Rows L2
abbrev tCut := Evl.tCut
/-- a word of one's own: the steps don't open it -/
def Hold (p : Prop) : Prop := p
def mkS (l : List Nat) : Str := ⟨l.toArray⟩
theorem pss_cut {X : Cx} {st : Stmt} {rest : List Stmt} {t u : TS} (h1 : PS X st t) (h2 : PSs X rest u) : PSs X (st :: rest) (tCut t u) := Evl.pss_cut h1 h2

/-! ### heaps: all but the addresses of S stays, nothing goes -/
def Keep (S : List Addr) (H H' : Hp) : Prop := ∀ a o, H a = some o → (∃ o', H' a = some o') ∧ (a ∉ S → H' a = some o)
theorem Keep.refl {S : List Addr} (H : Hp) : Keep S H H := fun _ o h => ⟨⟨o, h⟩, fun _ => h⟩
theorem Keep.trans {S : List Addr} {H H1 H2 : Hp} (x : Keep S H H1) (y : Keep S H1 H2) : Keep S H H2 := fun a o h => by
  obtain ⟨⟨o1, h1⟩, k1⟩ := x a o h
  exact ⟨(y a o1 h1).1, fun n => (y a o (k1 n)).2 n⟩
theorem Keep.mono {S S' : List Addr} {H H1 : Hp} (x : Keep S H H1) (h : ∀ a, a ∈ S → a ∈ S') : Keep S' H H1 := fun a o e => ⟨(x a o e).1, fun n => (x a o e).2 fun z => n (h a z)⟩
theorem Keep.free {S : List Addr} {H H1 : Hp} (x : Keep S H H1) {p : Addr} (h : H1 p = none) : H p = none := by
  cases e : H p with
  | none => rfl
  | some o =>
    obtain ⟨⟨o1, h1⟩, _⟩ := x p o e
    rw [h1] at h
    cases h
theorem Keep.get {S : List Addr} {H H1 : Hp} (x : Keep S H H1) {p : Addr} {o : HO} (h : H p = some o) (n : p ∉ S) : H1 p = some o := (x p o h).2 n
theorem Keep.new {S : List Addr} {H : Hp} {p : Addr} {o : HO} (h : H p = none) : Keep S H (upd H p o) := fun a u e => by
  have n : a ≠ p := ne_of_none e h
  rw [upd_ne n]
  exact ⟨⟨u, e⟩, fun _ => e⟩
theorem Keep.set {S : List Addr} {H : Hp} {p : Addr} {o : HO} (h : p ∈ S) : Keep S H (upd H p o) := fun a u e => by
  by_cases n : a = p
  · subst n
    rw [upd_same]
    exact ⟨⟨o, rfl⟩, fun z => absurd h z⟩
  · rw [upd_ne n]
    exact ⟨⟨u, e⟩, fun _ => e⟩

/-! ### a law's bag of draws: its third number is at most n -/
def Bag (H : Hp) (b : Addr) (n : Nat) : Prop := ∃ x y z : Int, H b = some (.lst [.int x, .int y, .int z]) ∧ 0 ≤ x ∧ 0 ≤ y ∧ y < 2147483648 ∧ 0 ≤ z ∧ z ≤ n
theorem Bag.mono {H : Hp} {b : Addr} {n m : Nat} (h : Bag H b n) (l : n ≤ m) : Bag H b m := by
  obtain ⟨x, y, z, e, h1, h2, h3, h4, h5⟩ := h
  exact ⟨x, y, z, e, h1, h2, h3, h4, by omega⟩
def spTake : Sp := fun vs H Q _ => ∃ (b : Addr) (m : Int) (n : Nat), vs = [.ref b, .int m] ∧ 0 < m ∧ m < 1073741824 ∧ Bag H b n ∧ n < 1073741824 ∧
  ∀ r H', 0 ≤ r → r < m → Keep [b] H H' → Bag H' b (n + 1) → Q (.int r) H'

/-! ### readings, one step at a time -/
section
variable {K : PySem.W.Frag} {σ : L2.St} {H : Hp} {Q : VK} {D : Ends} {v x y : V} {ta tb tc : TE} {t u z : TS} {tt tu : TT} {tr : TA} {i : Nat} {p : Addr} {xs ys : List V} {a b : Int} {k : Bool} {QA : List V → Hp → Prop} {QT : Bool → Hp → Prop}
theorem w_seq (h : t { D with nx := u D } σ H) : tSeq t u D σ H := h
theorem w_next (h : D.nx σ H) : tNext D σ H := h
theorem w_brk (h : D.bk σ H) : tBreak D σ H := h
theorem w_ret (h : ta σ H D.rt) : tRet ta D σ H := h
theorem w_retN (h : D.rt .non H) : tRetN D σ H := h
theorem w_drop (h : ta σ H fun _ H1 => D.nx σ H1) : tDrop ta D σ H := h
theorem w_ifS (h : tt σ H fun b H1 => if b = true then t D σ H1 else u D σ H1) : tIfS tt t u D σ H := h
theorem w_asg {g : TG} (h : ta σ H fun x H1 => g x σ H1 D.nx) : tAsg ta g D σ H := h
theorem w_gname {q : L2.St → Hp → Prop} (h : q (σ.set i (some v)) H) : gName i v σ H q := h
theorem w_gsub {q : L2.St → Hp → Prop} {ts : TSet} (h : ta σ H fun o H1 => tb σ H1 fun i H2 => ts o i v H2 fun H3 => q σ H3) : gSub ta tb ts v σ H q := h
theorem w_setL {q : Hp → Prop} {j : Nat} (h : H p = some (.lst xs)) (hj : ixN xs.length a = some j) (k : q (upd H p (.lst (xs.set j v)))) : rSetL (.ref p) (.int a) v H q := ⟨p, xs, a, j, rfl, rfl, h, hj, k⟩
theorem w_gtup {n : Nat} {gs : TGs} {q : L2.St → Hp → Prop} (h : SqT K H p xs) (hl : xs.length = n) (k : gs xs σ H q) : gTup K n gs (.ref p) σ H q := ⟨p, xs, rfl, h, hl, k⟩
theorem w_gcons {g : TG} {gs : TGs} {q : L2.St → Hp → Prop} (h : g v σ H fun σ' H' => gs xs σ' H' q) : gCons g gs (v :: xs) σ H q := ⟨v, xs, rfl, h⟩
theorem w_gnil {q : L2.St → Hp → Prop} (h : q σ H) : gNil [] σ H q := ⟨rfl, h⟩
theorem w_par {j : Nat} (h : tr σ H fun vs H1 => ∃ v w, vs = [v, w] ∧ D.nx ((σ.set i (some v)).set j (some w)) H1) : tPar i j tr D σ H := h
theorem w_aug {ti : TIp} (hv : σ[i]? = some (some x)) (h : ta σ H fun y H1 => ti x y H1 fun z H2 => D.nx (σ.set i (some z)) H2) : tAug i ta ti D σ H := ⟨x, hv, h⟩
theorem w_ipI {f : Int → Int → Int} (h : Q (.int (f a b)) H) : ipI f (.int a) (.int b) H Q := ⟨a, b, rfl, rfl, h⟩
theorem w_var (hv : σ[i]? = some (some v)) (h : Q v H) : tVar i σ H Q := ⟨v, hv, h⟩
theorem w_c (h : Q v H) : tC v σ H Q := h
theorem w_op {r : R2} (h : ta σ H fun x H1 => tb σ H1 fun y H2 => r x y H2 Q) : tOp r ta tb σ H Q := h
theorem w_un {r : V → Hp → VK → Prop} (h : ta σ H fun x H1 => r x H1 Q) : tUn r ta σ H Q := h
theorem w_I0 {g : Int → Int → V} (h : Q (g a b) H) : rI0 g (.int a) (.int b) H Q := ⟨a, b, rfl, rfl, h⟩
theorem w_I {C : Int → Int → Prop} {g : Int → Int → V} (hc : C a b) (h : Q (g a b) H) : rI C g (.int a) (.int b) H Q := ⟨a, b, rfl, rfl, hc, h⟩
theorem w_U {g : Int → V} (h : Q (g a) H) : rU g (.int a) H Q := ⟨a, rfl, h⟩
theorem w_eq (hs : scal x y = true) (h : Q (.bl (decide (x = y))) H) : rEq x y H Q := ⟨hs, h⟩
theorem w_ne (hs : scal x y = true) (h : Q (.bl (!decide (x = y))) H) : rNe x y H Q := ⟨hs, h⟩
theorem w_ixL (h : H p = some (.lst xs)) (ha : atI xs a = some v) (q : Q v H) : rIxL K (.ref p) (.int a) H Q := ⟨p, xs, a, v, rfl, rfl, SqL.of h, ha, q⟩
theorem w_ixLS (h : SqL K H p xs) (ha : atI xs a = some v) (q : Q v H) : rIxL K (.ref p) (.int a) H Q := ⟨p, xs, a, v, rfl, rfl, h, ha, q⟩
theorem w_ixT (h : SqT K H p xs) (ha : atI xs a = some v) (q : Q v H) : rIxT K (.ref p) (.int a) H Q := ⟨p, xs, a, v, rfl, rfl, h, ha, q⟩
theorem w_ixS {z : Str} {c : Nat} (h : z.length ≤ sizeLine) (ha : atI z.cps.toList a = some c) (q : Q (.str (mkS [c])) H) : rIxS (.str z) (.int a) H Q := ⟨z, a, c, rfl, rfl, h, ha, q⟩
theorem w_nil (h : QA [] H) : tNil σ H QA := h
theorem w_cons (h : ta σ H fun x H1 => tr σ H1 fun xs H2 => QA (x :: xs) H2) : tCons ta tr σ H QA := h
theorem w_cb {r : List V → Hp → VK → Prop} (h : tr σ H fun vs H1 => r vs H1 Q) : tCB r tr σ H Q := h
theorem w_call {sp : Sp} {dvs : List V} {E : XK} (h : tr σ H fun vs H1 => sp (vs ++ dvs) H1 Q E) : tCall sp dvs E tr σ H Q := h
theorem w_if (h : tt σ H fun c H1 => if c = true then ta σ H1 Q else tb σ H1 Q) : tIf tt ta tb σ H Q := h
theorem w_lst (h : tr σ H fun xs H1 => xs.length ≤ sizeLine ∧ ∀ p, H1 p = none → Q (.ref p) (upd H1 p (.lst xs))) : tLst tr σ H Q := h
theorem w_tup (h : tr σ H fun xs H1 => xs.length ≤ sizeLine ∧ ∀ p, H1 p = none → Q (.ref p) (upd H1 p (.tup xs))) : tTup tr σ H Q := h
theorem w_test (h : ta σ H fun x H' => ∃ k, x = .bl k ∧ QT k H') : tTest ta σ H QT := h
theorem w_B (h : ta σ H fun x H' => ∃ k, x = .bl k ∧ QT k H') : tB ta σ H QT := h
theorem w_and (h : tt σ H fun c H1 => if c = true then tu σ H1 QT else QT false H1) : tAnd tt tu σ H QT := h
theorem w_or (h : tt σ H fun c H1 => if c = true then QT true H1 else tu σ H1 QT) : tOr tt tu σ H QT := h
theorem w_not (h : tt σ H fun c H1 => QT (!c) H1) : tNot tt σ H QT := h
theorem w_yes (h : QT true H) : tYes σ H QT := h
theorem w_andV (h : ta σ H fun x H1 => ∃ c, x = .bl c ∧ if c = true then tb σ H1 Q else Q (.bl false) H1) : tAndV ta tb σ H Q := h
theorem w_orV (h : ta σ H fun x H1 => ∃ c, x = .bl c ∧ if c = true then Q (.bl true) H1 else tb σ H1 Q) : tOrV ta tb σ H Q := h
theorem w_notV (h : ta σ H fun x H1 => ∃ c, x = .bl c ∧ Q (.bl (!c)) H1) : tNotV ta σ H Q := h
theorem w_orT (h : ta σ H fun x H1 => ∃ k, TruV K x H1 k ∧ if k = true then Q x H1 else tb σ H1 Q) : tOrT K ta tb σ H Q := h
theorem w_chain {r r' : R2} (h : ta σ H fun x H1 => tb σ H1 fun y H2 => r x y H2 fun z H3 => ∃ k, z = .bl k ∧ (if k = true then tc σ H3 fun w' H4 => r' y w' H4 Q else Q (.bl false) H3)) : tChain r r' ta tb tc σ H Q := h
theorem w_m1 {r : V → List V → Hp → VK → Prop} (h : ta σ H fun x H1 => (∃ a, x = .str a) ∧ tb σ H1 fun y H2 => r x [y] H2 Q) : tM1 r ta tb σ H Q := h
theorem w_isS {z : Str} {P : Prop} (h : P) : (∃ a, V.str z = .str a) ∧ P := ⟨⟨z, rfl⟩, h⟩
theorem w_bm {T : String} {r : V → List V → Hp → VK → Prop} (h : ta σ H fun x H1 => tyV K T x H1 ∧ tr σ H1 fun xs H2 => r x xs H2 Q) : tBM K T r ta tr σ H Q := h
theorem w_bm0 {T : String} {r : V → List V → Hp → VK → Prop} (h : ta σ H fun x H1 => tyV K T x H1 ∧ r x [] H1 Q) : tBM0 K T r ta σ H Q := h
theorem w_tyL {P : Prop} (h : H p = some (.lst xs)) (q : P) : tyV K "list" (.ref p) H ∧ P := ⟨.inl ⟨rfl, xs, SqL.of h⟩, q⟩
theorem w_sl {r : V → Option Int → Option Int → Hp → VK → Prop} {tl th : TO} (h : ta σ H fun x H1 => tl σ H1 fun l H2 => th σ H2 fun u H3 => r x l u H3 Q) : tSl r ta tl th σ H Q := h
theorem w_noPart {q : Option Int → Hp → Prop} (h : q none H) : tNoPart σ H q := h
theorem w_part {q : Option Int → Hp → Prop} (h : ta σ H fun x H1 => ∃ i, x = .int i ∧ q (some i) H1) : tPart ta σ H q := h
theorem w_slS {z : Str} {lo hi : Option Int} (h : z.length ≤ sizeLine) (q : Q (.str (cutS z lo hi)) H) : rSlS (.str z) lo hi H Q := ⟨z, rfl, h, q⟩
/-- a test's two ways -/
theorem w_ite {c A B : Prop} [Decidable c] (h1 : c → A) (h2 : ¬ c → B) : if decide c = true then A else B := by
  by_cases h : c
  · rw [if_pos (decide_eq_true h)]
    exact h1 h
  · rw [if_neg (fun z => h (of_decide_eq_true z))]
    exact h2 h
theorem w_iteN {c A B : Prop} [Decidable c] (h1 : ¬ c → A) (h2 : c → B) : if (!decide c) = true then A else B := by
  by_cases h : c
  · rw [decide_eq_true h]
    exact iteF (h2 h)
  · rw [decide_eq_false h]
    exact iteT (h1 h)
theorem w_iteI {a b : Int} {A B : Prop} (h1 : a = b → A) (h2 : a ≠ b → B) : if decide (V.int a = V.int b) = true then A else B := w_ite (fun e => h1 (V.int.inj e)) (fun e => h2 fun z => e (congrArg V.int z))
theorem w_iteS {a b : Str} {A B : Prop} (h1 : a = b → A) (h2 : a ≠ b → B) : if decide (V.str a = V.str b) = true then A else B := w_ite (fun e => h1 (V.str.inj e)) (fun e => h2 fun z => e (congrArg V.str z))
theorem w_iteNI {a b : Int} {A B : Prop} (h1 : a ≠ b → A) (h2 : a = b → B) : if (!decide (V.int a = V.int b)) = true then A else B := w_iteN (fun e => h1 fun z => e (congrArg V.int z)) (fun e => h2 (V.int.inj e))
theorem w_iteNS {a b : Str} {A B : Prop} (h1 : a ≠ b → A) (h2 : a = b → B) : if (!decide (V.str a = V.str b)) = true then A else B := w_iteN (fun e => h1 fun z => e (congrArg V.str z)) (fun e => h2 (V.str.inj e))
theorem w_itb {k : Bool} {A B : Prop} (h1 : k = true → A) (h2 : k = false → B) : if k = true then A else B := by
  cases k with
  | true => exact iteT (h1 rfl)
  | false => exact iteF (h2 rfl)
end

/-! ### a def by its name; calls with keywords -/
def fd0 : FuncData := PySem.W.fnOf "" "" { posonlyargs := [], args := [], vararg := none, kwonlyargs := [], kw_defaults := [], kwarg := none, defaults := [] } [] { kind := .function, names := [], isGenerator := false, isCoroutine := false } .none .none .none .none none .none .none
def fdOf (K : PySem.W.Frag) (f : Addr) : FuncData := match K.lookup f with
  | some ⟨_, _, .func fd, _⟩ => fd
  | _ => fd0
theorem _root_.L2.FunD.toFd {K : PySem.W.Frag} {x qual : Str} {params : Arguments} {body : List Stmt} {scope : Scope} {dvs : List V} {kws : List (Str × V)} {f : Addr} {fd : FuncData} (F : FunD K x qual params body scope dvs kws f fd) : FunD K x qual params body scope dvs kws f (fdOf K f) := by
  obtain ⟨oc, od, dV, kV, doc, pm, an, cdv, ct, osl, e, lk, _⟩ := F.ex
  have h : fdOf K f = fd := by
    unfold fdOf
    rw [lk]
  rw [h]
  exact F
def pick {α : Type} (idx : List Nat) (xs : List α) : List α := idx.filterMap fun i => xs[i]?
theorem vals_pick {xs : List V} {us : List Value} (r : Vals xs us) : ∀ idx : List Nat, Vals (pick idx xs) (pick idx us)
  | [] => .nil
  | i :: idx => by
    have ih := vals_pick r idx
    unfold pick at ih ⊢
    cases e : xs[i]? with
    | none =>
      have e2 := Vals.none_of r e
      rw [List.filterMap_cons_none e, List.filterMap_cons_none e2]
      exact ih
    | some v =>
      obtain ⟨u, e2, rv⟩ := Vals.get r e
      rw [List.filterMap_cons_some e, List.filterMap_cons_some e2]
      exact .cons rv ih
def KbD (K : PySem.W.Frag) (fd : FuncData) (ps : List Str) (n : Nat) (ks : List Str) (ds : List V) (idx : List Nat) : Prop :=
  ∃ dus : List Value, KBn K fd ps n ks (fun us ws => pick idx (us ++ dus ++ ws)) (fun vs zs => pick idx (vs ++ ds ++ zs))
section
variable {K : PySem.W.Frag} {x qual : Str} {params : Arguments} {body : List Stmt} {scope : Scope} {kws : List (Str × V)} {f : Addr} {fd : FuncData} {ps ks : List Str} {n : Nat} {idx : List Nat}
theorem kbD0 (F : FunD K x qual params body scope [] kws f fd)
    (h : ∀ (kV doc pm : Value) (an : Option Addr) (cdv ct : Value) (us ws : List Value), us.length = n → ws.length = ks.length → bindArgs (PySem.W.fnOf x qual params body scope .none kV doc pm an cdv ct) ⟨us, ks.zip ws⟩ = pure (ps.zip (pick idx (us ++ [] ++ ws)))) : KbD K fd ps n ks [] idx := by
  obtain ⟨oc, od, dV, kV, doc, pm, an, cdv, ct, osl, rfl, lk, hcd, hD, hK⟩ := F.ex
  rcases hD with ⟨_, rfl⟩ | ⟨e, _⟩
  · exact ⟨[], fun s us ws X l1 l2 => .of_eq (h kV doc pm an cdv ct us ws l1 l2), fun r1 r2 => vals_pick ((r1.append .nil).append r2) idx⟩
  · exact absurd rfl e
theorem kbD {ms : List (Str × V)} (F : FunD K x qual params body scope [] kws f fd) (hk : kws ≠ []) (hms : ∀ q ∈ ms, q ∈ kws)
    (h : ∀ (D : Addr) (doc pm : Value) (an : Option Addr) (cdv ct : Value) (us mv ws : List Value), us.length = n → mv.length = ms.length → ws.length = ks.length →
      KwChain D ((ms.map (·.1)).zip mv) (bindArgs (PySem.W.fnOf x qual params body scope .none (.ref D) doc pm an cdv ct) ⟨us, ks.zip ws⟩) (ps.zip (pick idx (us ++ mv ++ ws)))) : KbD K fd ps n ks (ms.map (·.2)) idx := by
  obtain ⟨oc, od, dV, kV, doc, pm, an, cdv, ct, osl, rfl, lk, hcd, hD, hK⟩ := F.ex
  rcases hD with ⟨_, rfl⟩ | ⟨e, _⟩
  · rcases hK with e | ⟨D, rfl, hq⟩
    · exact absurd e hk
    · obtain ⟨mv, hl, rk, hks⟩ := kwd_vals (ms := ms) fun q hm => hq q (hms q hm)
      exact ⟨mv, fun s us ws X l1 l2 => BindsTo.of_looks fun M => KwChain.looks X hks (h D doc pm an cdv ct us mv ws l1 hl l2), fun r1 r2 => vals_pick ((r1.append rk).append r2) idx⟩
  · exact absurd rfl e
end
section
variable {X : Cx} {CX : CXT} {k n : Nat} {f : Addr} {fd : FuncData} {ps ks : List Str} {sp : Sp} {E : XK} {x : Str} {p pos : Pos} {e : Expr} {es : List Expr} {kws : List Keyword} {t tk : TA} {ds : List V} {idx : List Nat}
def tCallZ (n m : Nat) (sp : Sp) (ds : List V) (idx : List Nat) (E : XK) (t tk : TA) : TE := fun σ H Q => t σ H fun vs H1 => tk σ H1 fun zs H2 => vs.length = n ∧ zs.length = m ∧ sp (pick idx (vs ++ ds ++ zs)) H2 Q E
theorem pe_callZ (F : FnOk X.prog X.w X.K X.mg X.base CX k f fd ps sp) (hr : Room k X.A) (hg : Gl X x) (hm : X.mg x = some (.ref f)) (hk : PySem.W.keepIn X.K (.ref f) = true) (hb : KbD X.K fd ps n ks ds idx) (hx : Passes CX X E)
    (ha : PA X (e :: es) t) (hkw : PK X kws tk) (hall : (backToKw pos (keywordEach kws X.env)).all (·.1.isSome) = true := by rfl) (hks : (backToKw pos (keywordEach kws X.env)).filterMap (·.1) = ks := by rfl)
    (hdb : (x == ("__debug__" : Str)) = false := by decide) (he : starEach (e :: es) X.env = (false, eval e X.env) :: starEach es X.env := by rfl)
    (hpl : ((backTo pos (starEach (e :: es) X.env)).any (·.1) || (backToKw pos (keywordEach kws X.env)).any (·.1.isNone)) = false := by rfl) :
    PE X (.Call (.Name x p) (e :: es) kws pos) (tCallZ n ks.length sp ds idx E t tk) := by
  obtain ⟨dus, hb⟩ := hb
  exact pe_callN F hr hg hm hk hb hx ha hkw hall hks hdb he hpl
theorem pe_callZ1 (F : FnOk X.prog X.w X.K X.mg X.base CX k f fd ps sp) (hr : Room k X.A) (hg : Gl X x) (hm : X.mg x = some (.ref f)) (hk : PySem.W.keepIn X.K (.ref f) = true) (hb : KbD X.K fd ps n [] ds idx) (hx : Passes CX X E)
    (ha : PA X (e :: es) t) (hdb : (x == ("__debug__" : Str)) = false := by decide) (he : starEach (e :: es) X.env = (false, eval e X.env) :: starEach es X.env := by rfl)
    (hpl : ((backTo pos (starEach (e :: es) X.env)).any (·.1) || (backToKw pos (keywordEach [] X.env)).any (·.1.isNone)) = false := by rfl) :
    PE X (.Call (.Name x p) (e :: es) [] pos) (tCallZ n 0 sp ds idx E t tNil) := pe_callZ F hr hg hm hk hb hx ha pk_nil rfl rfl hdb he hpl
theorem pe_callZ0 (F : FnOk X.prog X.w X.K X.mg X.base CX k f fd ps sp) (hr : Room k X.A) (hg : Gl X x) (hm : X.mg x = some (.ref f)) (hk : PySem.W.keepIn X.K (.ref f) = true) (hb : KbD X.K fd ps 0 ks ds idx) (hx : Passes CX X E)
    (hkw : PK X kws tk) (hall : (backToKw pos (keywordEach kws X.env)).all (·.1.isSome) = true := by rfl) (hks : (backToKw pos (keywordEach kws X.env)).filterMap (·.1) = ks := by rfl)
    (hdb : (x == ("__debug__" : Str)) = false := by decide)
    (hpl : ((backTo pos (starEach [] X.env)).any (·.1) || (backToKw pos (keywordEach kws X.env)).any (·.1.isNone)) = false := by rfl) :
    PE X (.Call (.Name x p) [] kws pos) (tCallZ 0 ks.length sp ds idx E tNil tk) := by
  obtain ⟨dus, hb⟩ := hb
  refine ⟨fun pins s σ H Q I h => ?_⟩
  refine wpAny_Call_Name_kw (ld_glob I hg hm ?_ hdb)
  refine PySem.W.callWith_KW0 (h₀ := X.base) I.ok.mod.kin hk hall ?_ hpl
  refine thn (hkw.run pos pins s σ H _ I h) fun ws s2 ⟨zs, H2, I2, rz, l1, l2, q2⟩ => ⟨I2.kIn, ?_⟩
  rw [hks]
  exact run_fnN F hr hb hx I2 (vs := []) .nil rz l1 l2 q2
theorem w_callZ {n m : Nat} {σ : L2.St} {H : Hp} {Q : VK} (h : t σ H fun vs H1 => tk σ H1 fun zs H2 => vs.length = n ∧ zs.length = m ∧ sp (pick idx (vs ++ ds ++ zs)) H2 Q E) : tCallZ n m sp ds idx E t tk σ H Q := h
end

/-! ### further operators -/
section
variable {X : Cx}
def rMulS : R2 := fun x y H Q => ∃ z k, x = .str z ∧ y = .int k ∧ (0 ≤ k ∧ k ≤ 1000000 ∧ z.length * k.toNat ≤ 1000000) ∧ Q (.str (Txt.mul z k)) H
theorem op_mul_str : OpR X (binaryOp .Mult) rMulS := by
  intro pins s σ H x y u v Q I rx ry h
  obtain ⟨z, k, rfl, rfl, ⟨h0, h1, h2⟩, q⟩ := h
  obtain ⟨t, rfl⟩ := rx
  obtain ⟨t', rfl⟩ := ry
  refine SB.mul ⟨?_, fun a b => ?_, fun a b => ?_⟩ fun t' k' => ⟨.str (Txt.mul z k), H, I.tok _, ⟨_, rfl⟩, q⟩
  · simp
    omega
  · have hk : 1 ≤ k := by omega
    have hz : z.length ≤ 1000000 := by
      have : z.length * 1 ≤ z.length * k.toNat := Nat.mul_le_mul_left _ (by omega)
      omega
    have : (1000000 : Int) ≤ (2 ^ 63 - 1) / k := by
      have hk0 : 0 < k := by omega
      rw [Int.le_ediv_iff_mul_le hk0]
      omega
    omega
  · unfold PySem.Builtin.Str.tooLong
    simp
    rw [sizeLine_eq]
    omega
end

/-! ### the helpers of a law -/
def spCell (K : PySem.W.Frag) : Sp := fun vs H Q _ => ∃ (a : Addr) (ns : List Int) (k : Nat), vs = [.ref a, .int (k : Nat)] ∧ SqL K H a (ns.map V.int) ∧ k < 1000 ∧ ∀ r : Int, Q (.int r) H
def spBag : Sp := fun vs H Q _ => ∃ n : Int, vs = [.int n] ∧ ∀ p o, H p = none → Bag (upd H p o) p 0 → Q (.ref p) (upd H p o)
theorem len_ints {ns : List Int} : (ns.map V.int).length = ns.length := List.length_map _
theorem at_ints {ns : List Int} {k : Nat} (h : k < ns.length) : atI (ns.map V.int) (k : Nat) = some (.int ns[k]) := atI_nat (by rw [List.getElem?_map, List.getElem?_eq_getElem h]; rfl)
theorem w_lenL {K : PySem.W.Frag} {H : Hp} {Q : VK} {p : Addr} {ys : List V} (h : SqL K H p ys) (q : Q (.int ys.length) H) : (fun xs H Q => ∃ p ys, xs = [V.ref p] ∧ (SqL K H p ys ∨ SqT K H p ys) ∧ Q (.int ys.length) H) [.ref p] H Q := ⟨p, ys, rfl, .inl h, q⟩
theorem w_isi {K : PySem.W.Frag} {H : Hp} {Q : VK} {x : V} {T n : String} {b : Bool} (h : TyX K H x (.type T)) (e : kitB T n = some b) (q : Q (.bl b) H) : rIsi K [x, .ty n] H Q := ⟨x, .ty n, .type T, .type n, b, rfl, .ty n, h, kit_ty e, q⟩
theorem w_nF {A B : Prop} (h : B) : if (!true) = true then A else B := iteF h
theorem w_nT {A B : Prop} (h : A) : if (!false) = true then A else B := iteT h

/-! ### texts as lists of codes -/
abbrev tl (z : Str) : List Nat := z.cps.toList
theorem tl_mkS (l : List Nat) : tl (mkS l) = l := rfl
theorem mkS_tl (z : Str) : mkS (tl z) = z := TL.mk_tl z
theorem len_tl (z : Str) : z.length = (tl z).length := TL.len_tl z
theorem mkS_inj {a b : List Nat} (h : mkS a = mkS b) : a = b := by
  have e := congrArg tl h
  exact e
def cut1 (c : Nat) : List Nat → List Nat → List (List Nat)
  | acc, [] => [acc]
  | acc, d :: r => if d = c then acc :: cut1 c [] r else cut1 c (acc ++ [d]) r
theorem spl_cut1 (c : Nat) : ∀ (l acc : List Nat), TL.spl [c] 0 acc l = cut1 c acc l
  | [], acc => rfl
  | d :: r, acc => by
    have hp : TL.pre [c] (d :: r) = decide (d = c) := by
      show ([d] == [c]) = decide (d = c)
      by_cases e : d = c
      · simp [e]
      · simp [e]
    by_cases e : d = c
    · rw [TL.spl_hit (by rw [hp]; exact decide_eq_true e)]
      show acc :: TL.spl [c] 0 [] r = _
      rw [spl_cut1 c r []]
      simp [cut1, e]
    · rw [TL.spl_miss (by rw [hp]; exact decide_eq_false e), spl_cut1 c r (acc ++ [d])]
      simp [cut1, e]
theorem split_cut1 (z : Str) {c : Nat} (hc : c < 256) : Txt.split z (mkS [c]) = (cut1 c [] (tl z)).map mkS := by
  refine TL.map_tl_inj ?_
  have h := TL.split_spl z (mkS [c]) (by simp [TL.tl, mkS]) (TL.kind_ok (by simp [mkS, hc]))
  rw [h, List.map_map]
  show TL.spl [c] 0 [] (tl z) = _
  rw [spl_cut1]
  show _ = (cut1 c [] (tl z)).map (tl ∘ mkS)
  have : (tl ∘ mkS) = id := rfl
  rw [this, List.map_id]
theorem cut1_len (c : Nat) : ∀ (l acc : List Nat), (cut1 c acc l).length ≤ l.length + 1
  | [], _ => Nat.le_refl _
  | d :: r, acc => by
    unfold cut1
    split
    · have := cut1_len c r []
      simp only [List.length_cons]
      omega
    · have := cut1_len c r (acc ++ [d])
      simp only [List.length_cons]
      omega
/-- flat things in a list of texts -/
theorem flat_strs (l : List Str) : (l.map V.str).all flatV = true := by simp [flatV]
theorem inV_str {x : Str} : ∀ {l : List Str}, inV (.str x) (l.map V.str) = decide (x ∈ l)
  | [] => by simp [inV]
  | y :: l => by
    have ih := inV_str (x := x) (l := l)
    have e : inV (.str x) (V.str y :: l.map V.str) = (eqV (.str y) (.str x) || inV (.str x) (l.map V.str)) := rfl
    show inV (.str x) (V.str y :: l.map V.str) = _
    rw [e, ih]
    have e2 : eqV (.str y) (.str x) = decide (x = y) := by
      by_cases h : x = y
      · simp [eqV, h]
      · have h2 : ¬ y = x := fun z => h z.symm
        simp [eqV, h, h2]
    rw [e2]
    by_cases h : x = y <;> simp [h]

/-! ### loops -/
section
variable {K : PySem.W.Frag} {σ : L2.St} {H H1 : Hp} {Q : VK} {D : Ends} {g : TG} {tb : TS} {wi : TI} {J : It} {tt : TT} {te ta : TE} {vs : List Nat} {tr : TA}
def ForGo (J : It) (g : TG) (tb : TS) (D : Ends) (σ : L2.St) (H1 : Hp) : Prop := ∃ W : Nat → Nat → L2.St → Hp → Prop, (∃ m, W 0 m σ H1) ∧ ∀ i m σ H, W i m σ H →
  (J.stop i H ∧ D.nx σ H) ∨ (J.go i H ∧ ∃ N : L2.St → Hp → Prop, (∀ σ' H', N σ' H' → ∃ m', m' < m ∧ W (i + 1) m' σ' H') ∧ ∀ x H', J.yld i H x H' → g x σ H' fun σ2 H2 => tb { D with nx := N, ct := N, bk := D.nx } σ2 H2)
theorem w_for (h : wi σ H fun J H1 => ForGo J g tb D σ H1) : tFor wi g tb D σ H := h
def LcGo (J : It) (g : TG) (tt : TT) (te : TE) (vs : List Nat) (σ : L2.St) (H1 : Hp) (D : Addr) (Qd : Hp → Prop) : Prop := ∃ W : Nat → Nat → Hp → Prop, (∃ m, W 0 m (upd H1 D (.lst []))) ∧ ∀ i m H, W i m H →
  (J.stop i H ∧ Qd H) ∨ (J.go i H ∧ ∃ Nx : Hp → Prop, (∀ H', Nx H' → ∃ m', m' < m ∧ W (i + 1) m' H') ∧ ∀ x H', J.yld i H x H' → g x (wipe σ vs) H' fun σ2 H2 => wipe σ2 vs = wipe σ vs ∧ tt σ2 H2 fun b H3 =>
    if b = true then te σ2 H3 fun y H4 => ∃ acc, H4 D = some (.lst acc) ∧ acc.length < sizeLine ∧ Nx (upd H4 D (.lst (acc ++ [y]))) else Nx H3)
theorem w_lc (h : wi σ H fun J H1 => ∀ D, H1 D = none → LcGo J g tt te vs σ H1 D fun H => Q (.ref D) H) : tLc wi g tt te vs σ H Q := h
theorem w_iStr {R : It → Hp → Prop} (h : ta σ H fun v H1 => ∃ x, v = .str x ∧ R (Its x) H1) : iStr ta σ H R := h
theorem w_iList {R : It → Hp → Prop} (h : ta σ H fun x H1 => ∃ a, x = .ref a ∧ (∃ xs, SqL K H1 a xs) ∧ R (Itl K a) H1) : iList K ta σ H R := h
theorem w_iTup {R : It → Hp → Prop} (h : ta σ H fun x H1 => ∃ a, x = .ref a ∧ (∃ xs, SqT K H1 a xs) ∧ R (Itt K a) H1) : iTup K ta σ H R := h
theorem w_iRng1 {R : It → Hp → Prop} (h : tr σ H fun vs H1 => ∃ j : Int, vs = [.int j] ∧ -(2 ^ 62) ≤ j ∧ j < 2 ^ 62 ∧ R (Itr 0 j.toNat) H1) : iRng1 tr σ H R := h
theorem for_text {z : Str} (Pv : Nat → L2.St → Hp → Prop) (h0 : Pv 0 σ H)
    (hs : ∀ i c σ H, (tl z)[i]? = some c → Pv i σ H → g (.str (mkS [c])) σ H fun σ2 H2 => tb { D with nx := Pv (i + 1), ct := Pv (i + 1), bk := D.nx } σ2 H2) (hd : ∀ σ H, Pv (tl z).length σ H → D.nx σ H) : ForGo (Its z) g tb D σ H := by
  refine for_it (walk_str (z := z)) Pv h0 (fun _ _ _ _ _ => trivial) (fun i x σ H H' hi p y => ?_) (fun σ H p => hd σ H (by simpa using p))
  obtain ⟨rfl, c, e, rfl⟩ := y
  exact hs i c σ H' (by simpa using e) p
theorem for_rng {n : Nat} {lo : Int} (Pv : Nat → L2.St → Hp → Prop) (h0 : Pv 0 σ H)
    (hs : ∀ i σ H, i < n → Pv i σ H → g (.int (lo + i)) σ H fun σ2 H2 => tb { D with nx := Pv (i + 1), ct := Pv (i + 1), bk := D.nx } σ2 H2) (hd : ∀ σ H, Pv n σ H → D.nx σ H) : ForGo (Itr lo n) g tb D σ H := by
  refine for_it (walk_range (lo := lo) (n := n)) Pv h0 (fun _ _ _ _ _ => trivial) (fun i x σ H H' hi p y => ?_) hd
  obtain ⟨rfl, rfl⟩ := y
  exact hs i σ H' hi p
theorem for_lst {a : Addr} {xs : List V} (Pv : Nat → L2.St → Hp → Prop) (h0 : Pv 0 σ H) (hG : ∀ i σ H, i ≤ xs.length → Pv i σ H → SqL K H a xs)
    (hs : ∀ i x σ H, xs[i]? = some x → Pv i σ H → g x σ H fun σ2 H2 => tb { D with nx := Pv (i + 1), ct := Pv (i + 1), bk := D.nx } σ2 H2) (hd : ∀ σ H, Pv xs.length σ H → D.nx σ H) : ForGo (Itl K a) g tb D σ H := by
  refine for_it (walk_list (K := K) (a := a) (xs := xs)) Pv h0 hG (fun i x σ H H' hi p y => ?_) hd
  obtain ⟨rfl, e⟩ := y
  exact hs i x σ H' e p
/-- what is made so far is told by R -/
def Acc (Dl : Addr) (R : List V → Hp → Prop) (H : Hp) : Prop := ∃ acc, H Dl = some (.lst acc) ∧ R acc H
theorem lc_acc {n : Nat} {G : Hp → Prop} {Y : Nat → Hp → V → Hp → Prop} (w : Walk J n G Y) {Dl : Addr} {Qd : Hp → Prop} (R : Nat → List V → Hp → Prop) (h0 : R 0 [] (upd H1 Dl (.lst []))) (hG : ∀ i acc H, i ≤ n → R i acc H → H Dl = some (.lst acc) → G H)
    (hs : ∀ i acc x H H', i < n → R i acc H → H Dl = some (.lst acc) → Y i H x H' → g x (wipe σ vs) H' fun σ2 H2 => wipe σ2 vs = wipe σ vs ∧ tt σ2 H2 fun b H3 =>
      if b = true then te σ2 H3 fun y H4 => ∃ acc, H4 Dl = some (.lst acc) ∧ acc.length < sizeLine ∧ Acc Dl (R (i + 1)) (upd H4 Dl (.lst (acc ++ [y]))) else Acc Dl (R (i + 1)) H3)
    (hd : ∀ acc H, R n acc H → H Dl = some (.lst acc) → Qd H) : LcGo J g tt te vs σ H1 Dl Qd :=
  lc_it w (fun i H => Acc Dl (R i) H) ⟨[], upd_same, h0⟩ (fun i H hi ⟨acc, e, r⟩ => hG i acc H hi r e) (fun i x H H' hi ⟨acc, e, r⟩ y => hs i acc x H H' hi r e y) (fun H ⟨acc, e, r⟩ => hd acc H r e)
theorem lc_text {z : Str} {Dl : Addr} {Qd : Hp → Prop} (R : Nat → List V → Hp → Prop) (h0 : R 0 [] (upd H1 Dl (.lst [])))
    (hs : ∀ i acc c H, (tl z)[i]? = some c → R i acc H → H Dl = some (.lst acc) → g (.str (mkS [c])) (wipe σ vs) H fun σ2 H2 => wipe σ2 vs = wipe σ vs ∧ tt σ2 H2 fun b H3 =>
      if b = true then te σ2 H3 fun y H4 => ∃ acc, H4 Dl = some (.lst acc) ∧ acc.length < sizeLine ∧ Acc Dl (R (i + 1)) (upd H4 Dl (.lst (acc ++ [y]))) else Acc Dl (R (i + 1)) H3)
    (hd : ∀ acc H, R (tl z).length acc H → H Dl = some (.lst acc) → Qd H) : LcGo (Its z) g tt te vs σ H1 Dl Qd := by
  refine lc_acc (walk_str (z := z)) R h0 (fun _ _ _ _ _ _ => trivial) (fun i acc x H H' hi r e y => ?_) (fun acc H r => hd acc H (by simpa using r))
  obtain ⟨rfl, c, e2, rfl⟩ := y
  exact hs i acc c H' (by simpa using e2) r e
theorem lc_rng {n : Nat} {lo : Int} {Dl : Addr} {Qd : Hp → Prop} (R : Nat → List V → Hp → Prop) (h0 : R 0 [] (upd H1 Dl (.lst [])))
    (hs : ∀ i acc H, i < n → R i acc H → H Dl = some (.lst acc) → g (.int (lo + i)) (wipe σ vs) H fun σ2 H2 => wipe σ2 vs = wipe σ vs ∧ tt σ2 H2 fun b H3 =>
      if b = true then te σ2 H3 fun y H4 => ∃ acc, H4 Dl = some (.lst acc) ∧ acc.length < sizeLine ∧ Acc Dl (R (i + 1)) (upd H4 Dl (.lst (acc ++ [y]))) else Acc Dl (R (i + 1)) H3)
    (hd : ∀ acc H, R n acc H → H Dl = some (.lst acc) → Qd H) : LcGo (Itr lo n) g tt te vs σ H1 Dl Qd := by
  refine lc_acc (walk_range (lo := lo) (n := n)) R h0 (fun _ _ _ _ _ _ => trivial) (fun i acc x H H' hi r e y => ?_) hd
  obtain ⟨rfl, rfl⟩ := y
  exact hs i acc H' hi r e
theorem lc_lst {a : Addr} {xs : List V} {Dl : Addr} {Qd : Hp → Prop} (R : Nat → List V → Hp → Prop) (h0 : R 0 [] (upd H1 Dl (.lst []))) (hG : ∀ i acc H, i ≤ xs.length → R i acc H → H Dl = some (.lst acc) → SqL K H a xs)
    (hs : ∀ i acc x H, xs[i]? = some x → R i acc H → H Dl = some (.lst acc) → g x (wipe σ vs) H fun σ2 H2 => wipe σ2 vs = wipe σ vs ∧ tt σ2 H2 fun b H3 =>
      if b = true then te σ2 H3 fun y H4 => ∃ acc, H4 Dl = some (.lst acc) ∧ acc.length < sizeLine ∧ Acc Dl (R (i + 1)) (upd H4 Dl (.lst (acc ++ [y]))) else Acc Dl (R (i + 1)) H3)
    (hd : ∀ acc H, R xs.length acc H → H Dl = some (.lst acc) → Qd H) : LcGo (Itl K a) g tt te vs σ H1 Dl Qd := by
  refine lc_acc (walk_list (K := K) (a := a) (xs := xs)) R h0 hG (fun i acc x H H' hi r e y => ?_) hd
  obtain ⟨rfl, e2⟩ := y
  exact hs i acc x H' e2 r e
end
theorem lt_line {n : Nat} (h : n < 16777216) : n < sizeLine := by rw [sizeLine_eq]; exact h
theorem le_line {n : Nat} (h : n ≤ 16777216) : n ≤ sizeLine := by rw [sizeLine_eq]; exact h
theorem w_append {H : Hp} {Q : VK} {p : Addr} {xs : List V} {y : V} (h : H p = some (.lst xs)) (hl : xs.length < 16777216) (q : Q .non (upd H p (.lst (xs ++ [y])))) : rAppend (.ref p) [y] H Q := ⟨p, xs, y, rfl, rfl, h, lt_line hl, q⟩
theorem w_inL {K : PySem.W.Frag} {H : Hp} {Q : VK} {p : Addr} {xs : List V} {x : V} (h : H p = some (.lst xs)) (hx : flatV x = true) (hs : xs.all flatV = true) (q : Q (.bl (inV x xs)) H) : rIn K false x (.ref p) H Q := ⟨p, xs, rfl, .inl (SqL.of h), hx, hs, q⟩
theorem w_niL {K : PySem.W.Frag} {H : Hp} {Q : VK} {p : Addr} {xs : List V} {x : V} (h : H p = some (.lst xs)) (hx : flatV x = true) (hs : xs.all flatV = true) (q : Q (.bl (!inV x xs)) H) : rIn K true x (.ref p) H Q := ⟨p, xs, rfl, .inl (SqL.of h), hx, hs, q⟩
theorem mkS_app (a b : List Nat) : mkS a ++ mkS b = mkS (a ++ b) := TL.ext_tl (by rw [TL.tl_append]; rfl)
theorem tl_app (x y : Str) : tl (x ++ y) = tl x ++ tl y := TL.tl_append x y
theorem take_go {b : Addr} {m : Int} {n : Nat} {H : Hp} {Q : VK} {E : XK} (hm0 : 0 < m) (hm1 : m < 1073741824) (hB : Bag H b n) (hn : n < 1073741824) (q : ∀ r H', 0 ≤ r → r < m → Keep [b] H H' → Bag H' b (n + 1) → Q (.int r) H') : spTake [.ref b, .int m] H Q E := ⟨b, m, n, rfl, hm0, hm1, hB, hn, q⟩
theorem Bag.new {H : Hp} {b p : Addr} {n : Nat} {o : HO} (h : Bag H b n) (hp : H p = none) : Bag (upd H p o) b n := by
  obtain ⟨x, y, z, e, r⟩ := h
  exact ⟨x, y, z, by rw [upd_ne (ne_of_none e hp)]; exact e, r⟩
theorem Bag.ne {H : Hp} {b p : Addr} {n : Nat} (h : Bag H b n) (hp : H p = none) : p ≠ b := by
  obtain ⟨x, y, z, e, r⟩ := h
  exact (ne_of_none e hp).symm
theorem Bag.upd {H : Hp} {b p : Addr} {n : Nat} {o : HO} (h : Bag H b n) (hp : b ≠ p) : Bag (upd H p o) b n := by
  obtain ⟨x, y, z, e, r⟩ := h
  exact ⟨x, y, z, by rw [upd_ne hp]; exact e, r⟩
/-- a place that is new since H may be changed -/
theorem Keep.updNew {S : List Addr} {H H1 : Hp} {p : Addr} {o : HO} (k : Keep S H H1) (hp : H p = none) : Keep S H (upd H1 p o) := fun a u e => by
  have n : a ≠ p := ne_of_none e hp
  rw [upd_ne n]
  exact k a u e
theorem Keep.upd {S : List Addr} {H H1 : Hp} {p : Addr} {o : HO} (k : Keep S H H1) (hp : p ∈ S) : Keep S H (L2.upd H1 p o) := k.trans (Keep.set hp)
/-! texts joined, multiplied -/
theorem joinL_len (S : List Nat) : ∀ l : List (List Nat), (TL.joinL S l).length ≤ (l.map List.length).sum + l.length * S.length
  | [] => by simp [TL.joinL]
  | [p] => by simp [TL.joinL]
  | p :: q :: r => by
    have ih := joinL_len S (q :: r)
    show (p ++ (S ++ TL.joinL S (q :: r))).length ≤ _
    simp only [List.length_append, List.map_cons, List.sum_cons, List.length_cons, Nat.add_mul, Nat.one_mul] at ih ⊢
    omega
theorem tl_join (a : Str) (ys : List Str) : tl (Txt.join a ys) = TL.joinL (tl a) (ys.map tl) := by
  rw [TL.join_eq]
  exact TL.tl_join a ys
theorem join_len (a : Str) (ys : List Str) : (Txt.join a ys).length ≤ (ys.map (·.length)).sum + ys.length * a.length := by
  have h := joinL_len (tl a) (ys.map tl)
  rw [len_tl, tl_join]
  have e : (ys.map tl).map List.length = ys.map (·.length) := by
    rw [List.map_map]
    exact List.map_congr_left fun x _ => (len_tl x).symm
  rw [e, List.length_map, ← len_tl a] at h
  exact h
theorem sum_le {l : List Nat} {m : Nat} (h : ∀ x ∈ l, x ≤ m) : l.sum ≤ l.length * m := by
  induction l with
  | nil => simp
  | cons x r ih =>
    have h1 := h x (List.mem_cons_self ..)
    have h2 := ih fun y hy => h y (List.mem_cons_of_mem _ hy)
    simp only [List.sum_cons, List.length_cons, Nat.add_mul, Nat.one_mul]
    omega
theorem foldl_app : ∀ (l : List (Array Nat)) (a : Array Nat), (l.foldl (· ++ ·) a).toList = a.toList ++ (l.map Array.toList).flatten
  | [], a => by simp
  | x :: l, a => by
    rw [List.foldl_cons, foldl_app l (a ++ x)]
    simp
theorem tl_mul {z : Str} {k : Int} (h : 0 ≤ k) : tl (Txt.mul z k) = (List.replicate k.toNat (tl z)).flatten := by
  unfold Txt.mul
  by_cases h1 : k < 1
  · have e : k = 0 := by omega
    subst e
    rfl
  · rw [if_neg h1]
    by_cases h2 : (k == 1 || z.length == 0) = true
    · rw [if_pos h2]
      simp only [Bool.or_eq_true, beq_iff_eq] at h2
      rcases h2 with h2 | h2
      · subst h2
        simp
      · have e : tl z = [] := by
          rw [len_tl] at h2
          exact List.length_eq_zero_iff.mp h2
        rw [e]
        simp
    · rw [if_neg h2]
      show ((List.replicate k.toNat z.cps).foldl (· ++ ·) #[]).toList = _
      rw [foldl_app]
      simp
theorem mul_len {z : Str} {k : Int} (h : 0 ≤ k) : (Txt.mul z k).length = k.toNat * z.length := by
  rw [len_tl, tl_mul h, List.length_flatten, List.map_replicate, List.sum_replicate_nat, len_tl]
theorem one_strs {l : List V} {p : Nat → Prop} (h : ∀ v ∈ l, ∃ c, v = V.str (mkS [c]) ∧ p c) : ∃ cs : List Nat, l = (cs.map fun c => mkS [c]).map V.str ∧ ∀ c ∈ cs, p c := by
  induction l with
  | nil => exact ⟨[], rfl, fun c hc => by cases hc⟩
  | cons v r ih =>
    obtain ⟨c, rfl, pc⟩ := h v (List.mem_cons_self ..)
    obtain ⟨cs, e, pcs⟩ := ih fun w hw => h w (List.mem_cons_of_mem _ hw)
    refine ⟨c :: cs, by rw [e]; rfl, fun d hd => ?_⟩
    rcases List.mem_cons.mp hd with z | z
    · exact z ▸ pc
    · exact pcs d z
theorem all_strs {l : List V} {p : Str → Prop} (h : ∀ v ∈ l, ∃ c, v = V.str c ∧ p c) : ∃ cs : List Str, l = cs.map V.str ∧ ∀ c ∈ cs, p c := by
  induction l with
  | nil => exact ⟨[], rfl, fun c hc => by cases hc⟩
  | cons v r ih =>
    obtain ⟨c, rfl, pc⟩ := h v (List.mem_cons_self ..)
    obtain ⟨cs, e, pcs⟩ := ih fun w hw => h w (List.mem_cons_of_mem _ hw)
    refine ⟨c :: cs, by rw [e]; rfl, fun d hd => ?_⟩
    rcases List.mem_cons.mp hd with z | z
    · exact z ▸ pc
    · exact pcs d z
theorem all_snoc {l : List V} {p : V → Prop} {v : V} (h : ∀ x ∈ l, p x) (hv : p v) : ∀ x ∈ l ++ [v], p x := fun x hx => by
  rcases List.mem_append.mp hx with z | z
  · exact h x z
  · exact (show x = v by simpa using z) ▸ hv
theorem at_head {α : Type} {x : α} {r : List α} : atI (x :: r) 0 = some x := atI_nat (j := 0) rfl
theorem sum_ones (cs : List Nat) : ((cs.map fun c => mkS [c]).map (·.length)).sum = cs.length := by
  induction cs with
  | nil => rfl
  | cons c r ih =>
    simp only [List.map_cons, List.sum_cons, List.length_cons]
    have e : (mkS [c]).length = 1 := rfl
    rw [ih, e]
    omega
theorem joinL_ones : ∀ cs : List Nat, TL.joinL [] (cs.map fun c => [c]) = cs
  | [] => rfl
  | [c] => rfl
  | c :: d :: r => by
    show [c] ++ ([] ++ TL.joinL [] ((d :: r).map fun c => [c])) = _
    rw [joinL_ones (d :: r)]
    rfl
theorem join_ones (cs : List Nat) : Txt.join "" (cs.map fun c => mkS [c]) = mkS cs := by
  refine TL.ext_tl ?_
  show tl _ = tl _
  rw [tl_join, List.map_map]
  exact joinL_ones cs
theorem atS {z : Str} {r : Int} (h0 : 0 ≤ r) (h : r < z.length) : ∃ c, (tl z)[r.toNat]? = some c ∧ atI z.cps.toList r = some c := by
  rw [len_tl] at h
  have hl : r.toNat < (tl z).length := by omega
  refine ⟨(tl z)[r.toNat], List.getElem?_eq_getElem hl, ?_⟩
  have e : r = ((r.toNat : Nat) : Int) := by omega
  conv => lhs; rw [e]
  exact atI_nat (List.getElem?_eq_getElem hl)

/-! ### texts of plain signs -/
def Asc (z : Str) : Prop := ∀ c ∈ tl z, c < 128
theorem Asc.app {x y : Str} (hx : Asc x) (hy : Asc y) : Asc (x ++ y) := fun c hc => by
  rw [tl_app] at hc
  rcases List.mem_append.mp hc with h | h
  · exact hx c h
  · exact hy c h
theorem Asc.ok {z : Str} (h : Asc z) : PyData.strOk z = true := by
  unfold PyData.strOk
  rw [Array.all_eq_true]
  intro i hi
  have := h z.cps[i] (by simp [tl])
  simp
  omega
theorem Asc.mk {l : List Nat} (h : ∀ c ∈ l, c < 128) : Asc (mkS l) := h
theorem Asc.mul {z : Str} {k : Int} (h : Asc z) (hk : 0 ≤ k) : Asc (Txt.mul z k) := fun c hc => by
  rw [tl_mul hk] at hc
  obtain ⟨l, hl, hc⟩ := List.mem_flatten.mp hc
  rw [List.eq_of_mem_replicate hl] at hc
  exact h c hc
theorem mem_joinL {S : List Nat} {c : Nat} : ∀ {l : List (List Nat)}, c ∈ TL.joinL S l → c ∈ S ∨ ∃ p ∈ l, c ∈ p
  | [], h => by cases h
  | [p], h => .inr ⟨p, List.mem_singleton.mpr rfl, h⟩
  | p :: q :: r, h => by
    have h : c ∈ p ++ (S ++ TL.joinL S (q :: r)) := h
    rcases List.mem_append.mp h with h | h
    · exact .inr ⟨p, List.mem_cons_self .., h⟩
    rcases List.mem_append.mp h with h | h
    · exact .inl h
    rcases mem_joinL h with h | ⟨x, hx, h⟩
    · exact .inl h
    · exact .inr ⟨x, List.mem_cons_of_mem _ hx, h⟩
theorem Asc.join {a : Str} {ys : List Str} (h : Asc a) (hs : ∀ y ∈ ys, Asc y) : Asc (Txt.join a ys) := fun c hc => by
  rw [tl_join] at hc
  rcases mem_joinL hc with z | ⟨p, hp, z⟩
  · exact h c z
  · obtain ⟨y, hy, rfl⟩ := List.mem_map.mp hp
    exact hs y hy c z
theorem cut1_sub (c : Nat) : ∀ (l acc : List Nat) (p : List Nat), p ∈ cut1 c acc l → ∀ d ∈ p, d ∈ acc ∨ d ∈ l
  | [], acc, p, hp, d, hd => by
    have : p = acc := by simpa [cut1] using hp
    exact .inl (this ▸ hd)
  | e :: r, acc, p, hp, d, hd => by
    unfold cut1 at hp
    split at hp
    · rcases List.mem_cons.mp hp with h | h
      · exact .inl (h ▸ hd)
      · rcases cut1_sub c r [] p h d hd with h | h
        · cases h
        · exact .inr (List.mem_cons_of_mem _ h)
    · rcases cut1_sub c r (acc ++ [e]) p hp d hd with h | h
      · rcases List.mem_append.mp h with h | h
        · exact .inl h
        · exact .inr (by simp at h; simp [h])
      · exact .inr (List.mem_cons_of_mem _ h)
theorem Asc.cut1 {z : Str} (h : Asc z) {c : Nat} {p : List Nat} (hp : p ∈ Fr.cut1 c [] (tl z)) : Asc (mkS p) := fun d hd => by
  rcases cut1_sub c (tl z) [] p hp d hd with h' | h'
  · cases h'
  · exact h d h'
theorem Asc.cutS {z : Str} (h : Asc z) (lo hi : Option Int) : Asc (L2.cutS z lo hi) := fun c hc => by
  unfold L2.cutS at hc
  exact h c (List.mem_of_mem_drop (List.mem_of_mem_take hc))
/-! ### data of some depth, compared -/
theorem lay_strs : ∀ l : List Str, (∀ x ∈ l, Asc x) → PyData.canLayAll0 (l.map PyData.str) = true ∧ PyData.depthAll (l.map PyData.str) = 0
  | [], _ => ⟨rfl, rfl⟩
  | x :: l, h => by
    obtain ⟨a, b⟩ := lay_strs l fun y hy => h y (List.mem_cons_of_mem _ hy)
    constructor
    · simp [PyData.canLayAll0, PyData.canLay0, a, (h x (List.mem_cons_self ..)).ok]
    · simp [PyData.depthAll, PyData.depth, b]
theorem shaped_strs {l : List Str} (h : ∀ x ∈ l, Asc x) : SeqAt.shaped (.list (l.map PyData.str)) = true := by
  obtain ⟨a, b⟩ := lay_strs l h
  unfold SeqAt.shaped
  simp [PyData.canLay0, a, PyData.depth, b]
theorem dp_strs {K : PySem.W.Frag} {H : Hp} : ∀ l : List Str, DpAll K H (l.map V.str) (l.map PyData.str)
  | [] => .nil
  | x :: l => .cons (.str x) (dp_strs l)
theorem w_neD {K : PySem.W.Frag} {H : Hp} {Q : VK} {x y : V} {d e : PyData} (hx : Dp K H x d) (hy : Dp K H y e) (hd : SeqAt.shaped d = true) (he : SeqAt.shaped e = true) (q : Q (.bl (!PyData.eqv d e)) H) : rNeD K x y H Q := ⟨d, e, hx, hy, hd, he, q⟩
theorem w_eqD {K : PySem.W.Frag} {H : Hp} {Q : VK} {x y : V} {d e : PyData} (hx : Dp K H x d) (hy : Dp K H y e) (hd : SeqAt.shaped d = true) (he : SeqAt.shaped e = true) (q : Q (.bl (PyData.eqv d e)) H) : rEqD K x y H Q := ⟨d, e, hx, hy, hd, he, q⟩
theorem eqv_self {d : PyData} (h : SeqAt.shaped d = true) : PyData.eqv d d = true := SeqAt.eqv_refl d (SeqAt.canLay_of_shaped h)
theorem Keep.fresh {S : List Addr} {H H1 : Hp} (k : Keep S H H1) (h : ∀ p ∈ S, H p = none) : Keep [] H H1 := fun a o e => ⟨(k a o e).1, fun _ => (k a o e).2 fun z => by
  rw [h a z] at e
  cases e⟩
theorem Keep.sqL {K : PySem.W.Frag} {H H1 : Hp} {a : Addr} {xs : List V} (k : Keep [] H H1) (h : SqL K H a xs) : SqL K H1 a xs := by
  rcases h with (h | ⟨o, h⟩) | h
  · exact .inl (.inl (k.get h (by simp)))
  · exact .inl (.inr ⟨o, k.get h (by simp)⟩)
  · exact .inr h
theorem cell_go {K : PySem.W.Frag} {a : Addr} {ns : List Int} {k : Nat} {H : Hp} {Q : VK} {E : XK} (hS : SqL K H a (ns.map V.int)) (hk : k < 1000) (q : ∀ r : Int, Q (.int r) H) : spCell K [.ref a, .int (0 + (k : Nat))] H Q E := ⟨a, ns, k, by rw [Int.zero_add], hS, hk, q⟩
theorem bag_go {n : Int} {H : Hp} {Q : VK} {E : XK} (q : ∀ p o, H p = none → Bag (upd H p o) p 0 → Q (.ref p) (upd H p o)) : spBag [.int n] H Q E := ⟨n, rfl, q⟩
/-- an item of a list at a place in bounds -/
theorem at_all {xs : List V} {r : Int} {p : V → Prop} (h0 : 0 ≤ r) (h1 : r < xs.length) (h : ∀ v ∈ xs, p v) : ∃ v, atI xs r = some v ∧ p v := by
  have hl : r.toNat < xs.length := by omega
  have e : r = ((r.toNat : Nat) : Int) := by omega
  refine ⟨xs[r.toNat], ?_, h _ (List.getElem_mem hl)⟩
  conv => lhs; rw [e]
  exact atI_nat (List.getElem?_eq_getElem hl)
def NotStr (K : PySem.W.Frag) (H : Hp) (v : V) : Prop := ∃ T, TyX K H v (.type T) ∧ kitB T "str" = some false
theorem notStr_non {K : PySem.W.Frag} {H : Hp} : NotStr K H .non := ⟨_, .base .non, by decide +kernel⟩
theorem notStr_bl {K : PySem.W.Frag} {H : Hp} {b : Bool} : NotStr K H (.bl b) := ⟨_, .base (.bl b), by decide +kernel⟩
theorem notStr_int {K : PySem.W.Frag} {H : Hp} {i : Int} : NotStr K H (.int i) := ⟨_, .base (.int i), by decide +kernel⟩
theorem notStr_lst {K : PySem.W.Frag} {H : Hp} {p : Addr} {xs : List V} (h : H p = some (.lst xs)) : NotStr K H (.ref p) := ⟨_, .base (.lst h), by decide +kernel⟩
theorem notStr_tup {K : PySem.W.Frag} {H : Hp} {p : Addr} {xs : List V} (h : H p = some (.tup xs)) : NotStr K H (.ref p) := ⟨_, .base (.tup h), by decide +kernel⟩
theorem notStr_dK {K : PySem.W.Frag} {H : Hp} {p : Addr} {xs : List (Key × V)} (h : H p = some (.dK xs)) : NotStr K H (.ref p) := ⟨_, .base (.dK h), by decide +kernel⟩
/-! operators under names -/
def rAddT : R2 := fun x y H Q => ∃ i j, x = .str i ∧ y = .str j ∧ i.length + j.length ≤ sizeLine ∧ Q (.str (i ++ j)) H
theorem op_addT {X : Cx} : OpR X (binaryOp .Add) rAddT := op_add_str
theorem w_addT {H : Hp} {Q : VK} {a b : Str} (h : a.length + b.length ≤ 16777216) (q : Q (.str (a ++ b)) H) : rAddT (.str a) (.str b) H Q := ⟨a, b, rfl, rfl, le_line h, q⟩
theorem app_len (a b : Str) : (a ++ b).length = a.length + b.length := by
  rw [len_tl, tl_app, List.length_append, ← len_tl, ← len_tl]
theorem mkS_len (l : List Nat) : (mkS l).length = l.length := rfl
theorem asc_of {z : Str} (h : (tl z).all (fun c => decide (c < 128)) = true) : Asc z := fun c hc => of_decide_eq_true (List.all_eq_true.mp h c hc)
theorem w_dnewK {σ : L2.St} {H : Hp} {Q : VK} (h : ∀ p, H p = none → Q (.ref p) (upd H p (.dK []))) : tDNewK σ H Q := h
theorem stay {H : Hp} {p q : Addr} {o u : HO} (h : H q = some o) (hp : H p = none) : upd H p u q = some o := by
  rw [upd_ne (ne_of_none h hp)]
  exact h
theorem one_eq {c d : Nat} : mkS [c] = mkS [d] ↔ c = d := ⟨fun e => by simpa using mkS_inj e, fun e => by rw [e]⟩
theorem head_at {l : List Nat} (h : l ≠ []) : ∃ c r, l = c :: r ∧ atI l 0 = some c := by
  cases l with
  | nil => exact absurd rfl h
  | cons c r => exact ⟨c, r, rfl, at_head⟩
theorem take_snoc {α : Type} {l : List α} {i : Nat} {c : α} (h : l[i]? = some c) : l.take (i + 1) = l.take i ++ [c] := by
  rw [List.take_add_one, h]
  rfl
theorem ixL_all {K : PySem.W.Frag} {H : Hp} {Q : VK} {p : Addr} {xs : List V} {r : Int} {P : V → Prop} (e : H p = some (.lst xs)) (h0 : 0 ≤ r) (h1 : r < xs.length) (h : ∀ v ∈ xs, P v) (q : ∀ v, P v → Q v H) : rIxL K (.ref p) (.int r) H Q := by
  obtain ⟨v, hv, pv⟩ := at_all h0 h1 h
  exact w_ixL e hv (q v pv)
theorem Bag.keep0 {H H' : Hp} {b : Addr} {n : Nat} (h : Bag H b n) (k : Keep [] H H') : Bag H' b n := by
  obtain ⟨x, y, z, e, r⟩ := h
  exact ⟨x, y, z, k.get e (by simp), r⟩
theorem Keep.up {b : Addr} {H H' : Hp} (k : Keep [] H H') : Keep [b] H H' := k.mono (by simp)
theorem tyX_keep {K : PySem.W.Frag} {H H' : Hp} {x : V} {t : Value} (h : TyX K H x t) (k : Keep [] H H') : TyX K H' x t := by
  have g : ∀ {a : Addr} {o : HO}, H a = some o → H' a = some o := fun e => k.get e (by simp)
  cases h with
  | base b =>
    cases b with
    | non => exact .base .non
    | bl y => exact .base (.bl y)
    | int i => exact .base (.int i)
    | str y => exact .base (.str y)
    | flt y => exact .base (.flt y)
    | lst e => exact .base (.lst (g e))
    | frz e => exact .base (.frz (g e))
    | tup e => exact .base (.tup (g e))
    | dK e => exact .base (.dK (g e))
    | dT e => exact .base (.dT (g e))
    | ins e c1 c2 c3 c4 c5 => exact .base (.ins (g e) c1 c2 c3 c4 c5)
  | byt y => exact .byt y
  | set e => exact .set (g e)
  | kList e c => exact .kList e c
  | kTuple e c => exact .kTuple e c
  | kDict e c => exact .kDict e c
  | fTuple e => exact .fTuple (g e)
  | fDict e => exact .fDict (g e)
theorem NotStr.keep {K : PySem.W.Frag} {H H' : Hp} {v : V} (h : NotStr K H v) (k : Keep [] H H') : NotStr K H' v := by
  obtain ⟨T, ty, e⟩ := h
  exact ⟨T, tyX_keep ty k, e⟩
end Fr
namespace K05
open PySem PySem.Spec PyProof.Rows L2 Fr
local macro_rules | `(tactic| walk_at "hp") => `(tactic| first | assumption | exact upd_same | (refine (upd_ne ?n).trans ?m; (case n => walk_at "ne"); case m => walk_at "hp"))
local macro_rules | `(tactic| walk_at "ne") => `(tactic| first | assumption | exact Ne.symm (by assumption) | exact ne_of_none (by assumption) (by assumption) | exact Ne.symm (ne_of_none (by assumption) (by assumption)))
local macro_rules | `(tactic| walk_at "s") => `(tactic| first
  | with_reducible refine w_seq ?_ | with_reducible refine w_next ?_ | with_reducible refine w_ret ?_ | with_reducible refine w_asg ?_ | with_reducible refine w_ifS ?_
  | with_reducible refine w_drop ?_ | with_reducible refine w_retN ?_ | with_reducible refine w_gname ?_ | with_reducible refine w_gsub ?_ | with_reducible refine w_par ?_
  | with_reducible refine w_op ?_ | with_reducible refine w_c ?_ | with_reducible refine w_un ?_ | with_reducible refine w_cons ?_ | with_reducible refine w_nil ?_ | with_reducible refine w_cb ?_ | with_reducible refine w_call ?_
  | ((with_reducible show tVar _ _ _ _); refine w_var rfl ?_)
  | with_reducible refine w_I0 ?_ | with_reducible refine w_U ?_ | with_reducible refine w_test ?_ | with_reducible refine w_B ?_ | with_reducible refine w_and ?_ | with_reducible refine w_or ?_ | with_reducible refine w_not ?_ | with_reducible refine w_yes ?_
  | with_reducible refine w_if ?_ | with_reducible refine w_lst ?_ | with_reducible refine w_tup ?_ | with_reducible refine w_andV ?_ | with_reducible refine w_orV ?_ | with_reducible refine w_notV ?_ | with_reducible refine w_orT ?_ | with_reducible refine w_chain ?_
  | with_reducible refine w_m1 ?_ | with_reducible refine w_isS ?_ | with_reducible refine w_bm ?_ | with_reducible refine w_bm0 ?_ | with_reducible refine w_sl ?_ | with_reducible refine w_noPart ?_ | with_reducible refine w_part ?_
  | ((with_reducible refine' w_I ?hc_I ?_); case hc_I => first | omega | exact ⟨by decide, by decide⟩ | exact Or.inl ⟨by decide, by decide⟩ | exact Or.inr ⟨by decide, by decide⟩ | (refine ⟨?_, ?_⟩ <;> omega) | (refine ⟨by decide, by decide, ?_⟩; omega) | (refine Or.inl ⟨?_, ?_⟩ <;> omega) | (refine Or.inr ⟨?_, ?_⟩ <;> omega) | decide)
  | ((with_reducible refine' w_eq ?hs_eq ?_); case hs_eq => rfl) | ((with_reducible refine' w_ne ?hs_ne ?_); case hs_ne => rfl)
  | ((with_reducible refine' w_ixL ?h_ix ?ha_ix ?_); (case h_ix => walk_at "hp"); case ha_ix => first | rfl | exact at_head)
  | ((with_reducible refine' w_ixLS ?h_ix ?ha_ix ?_); (case h_ix => walk_at "hp"); case ha_ix => first | rfl | exact at_head)
  | ((with_reducible refine' w_setL ?h_ix ?ha_ix ?_); (case h_ix => walk_at "hp"); case ha_ix => first | rfl | exact at_head)
  | ((with_reducible refine' w_ixT ?h_ix ?ha_ix ?_); (case h_ix => walk_at "hp"); case ha_ix => first | rfl | exact at_head)
  | ((with_reducible refine' w_aug ?h_var ?_); case h_var => rfl) | with_reducible refine w_ipI ?_
  | ((with_reducible refine' w_gtup ?h_ix ?ha_ix ?_); (case h_ix => walk_at "hp"); case ha_ix => first | rfl | exact at_head) | with_reducible refine w_gcons ?_ | with_reducible refine w_gnil ?_
  | ((with_reducible refine' w_tyL ?h_ix ?_); case h_ix => walk_at "hp")
  | with_reducible refine iteT ?_ | with_reducible refine iteF ?_ | with_reducible refine w_nT ?_ | with_reducible refine w_nF ?_ | with_reducible refine w_callZ ?_
  | ((with_reducible refine' w_addT ?h_add ?_); case h_add => ((try simp only [app_len, mkS_len, List.length_cons, List.length_nil]); omega)) | ((with_reducible refine' w_slS ?h_add ?_); case h_add => exact le_line (by (try simp only [app_len, mkS_len, List.length_cons, List.length_nil]); omega))
  | with_reducible refine w_dnewK ?_
  | with_reducible refine w_for ?_ | with_reducible refine w_lc ?_ | with_reducible refine w_iStr ?_ | with_reducible refine w_iList ?_ | with_reducible refine w_iTup ?_ | with_reducible refine w_iRng1 ?_
  | ((with_reducible show _ ≤ sizeLine ∧ _); refine ⟨le_line (by first | omega | exact Nat.le_of_ble_eq_true rfl | decide), ?_⟩)
  | with_reducible refine ⟨_, rfl, ?_⟩ | with_reducible refine ⟨_, _, rfl, ?_⟩ | with_reducible refine ⟨rfl, ?_⟩)
local macro_rules | `(tactic| walk_at "ss") => `(tactic| repeat walk_at "s")
def topS (i : Nat) : Stmt := PySem.Challenge.pw_filerights_k05_integers_of_texts.main.body.getD i (.Pass ⟨0, 0, 0, 0⟩)
abbrev s_parse_integer : Stmt := topS 3
abbrev N_parse_integer : List Str := ["text", "low", "high", "sign", "number"]
theorem sc_parse_integer : FnScope N_parse_integer ["text", "low", "high"] (defScope s_parse_integer) := ⟨rfl, rfl, rfl, by decide +kernel, rfl, by decide +kernel, by decide +kernel⟩
abbrev s_law_cell : Stmt := topS 5
abbrev N_law_cell : List Str := ["_law_script", "_law_k"]
theorem sc_law_cell : FnScope N_law_cell ["_law_script", "_law_k"] (defScope s_law_cell) := ⟨rfl, rfl, rfl, by decide +kernel, rfl, by decide +kernel, by decide +kernel⟩
abbrev s_law_bag : Stmt := topS 6
abbrev N_law_bag : List Str := ["_law_number"]
theorem sc_law_bag : FnScope N_law_bag ["_law_number"] (defScope s_law_bag) := ⟨rfl, rfl, rfl, by decide +kernel, rfl, by decide +kernel, by decide +kernel⟩
abbrev s_law_take : Stmt := topS 7
abbrev N_law_take : List Str := ["_law_bag_here", "_law_count", "_law_digit", "_law_mixed"]
theorem sc_law_take : FnScope N_law_take ["_law_bag_here", "_law_count"] (defScope s_law_take) := ⟨rfl, rfl, rfl, by decide +kernel, rfl, by decide +kernel, by decide +kernel⟩
abbrev s_law_digits : Stmt := topS 8
abbrev N_law_digits : List Str := ["_law_bag_here", "_law_many", "_law_found", "_law_k", "_law_way", "_law_at"]
theorem sc_law_digits : FnScope N_law_digits ["_law_bag_here"] (defScope s_law_digits) := ⟨rfl, rfl, rfl, by decide +kernel, rfl, by decide +kernel, by decide +kernel⟩
abbrev s_law_value : Stmt := topS 9
abbrev N_law_value : List Str := ["_law_text_one", "_law_number", "_law_sign"]
theorem sc_law_value : FnScope N_law_value ["_law_text_one"] (defScope s_law_value) := ⟨rfl, rfl, rfl, by decide +kernel, rfl, by decide +kernel, by decide +kernel⟩
abbrev s_law_between : Stmt := topS 10
abbrev N_law_between : List Str := ["_law_number", "_law_floor", "_law_top"]
theorem sc_law_between : FnScope N_law_between ["_law_number", "_law_floor", "_law_top"] (defScope s_law_between) := ⟨rfl, rfl, rfl, by decide +kernel, rfl, by decide +kernel, by decide +kernel⟩
abbrev s_law_same : Stmt := topS 11
abbrev N_law_same : List Str := ["_law_found", "_law_expected"]
theorem sc_law_same : FnScope N_law_same ["_law_found", "_law_expected"] (defScope s_law_same) := ⟨rfl, rfl, rfl, by decide +kernel, rfl, by decide +kernel, by decide +kernel⟩
abbrev s_law : Stmt := topS 12
abbrev N_law : List Str := ["_law_script", "_law_k", "_law_bag_here", "_law_text_one", "_law_number", "_law_middle", "_law_most", "_law_first", "_law_second", "_law_thing"]
theorem sc_law : FnScope N_law ["_law_script"] (defScope s_law) := ⟨rfl, rfl, rfl, by decide +kernel, rfl, by decide +kernel, by decide +kernel⟩
abbrev D_parse_integer (K : PySem.W.Frag) (fd : FuncData) : Prop := FunD K "parse_integer" "parse_integer" (defArgs s_parse_integer) (defBody s_parse_integer) (defScope s_parse_integer) [] [("low", .int (0)), ("high", .int (999999))] (He.ga K "parse_integer") fd
abbrev D_law_cell (K : PySem.W.Frag) (fd : FuncData) : Prop := FunD K "_law_cell" "_law_cell" (defArgs s_law_cell) (defBody s_law_cell) (defScope s_law_cell) [] [] (He.ga K "_law_cell") fd
theorem bN_law_cell {K : PySem.W.Frag} {fd : FuncData} (F : D_law_cell K fd) : Binds K fd ["_law_script", "_law_k"] [] := F.bindsN fun _ _ _ _ _ _ us hl => match us, hl with | [_, _], _ => rfl
abbrev D_law_bag (K : PySem.W.Frag) (fd : FuncData) : Prop := FunD K "_law_bag" "_law_bag" (defArgs s_law_bag) (defBody s_law_bag) (defScope s_law_bag) [] [] (He.ga K "_law_bag") fd
theorem bN_law_bag {K : PySem.W.Frag} {fd : FuncData} (F : D_law_bag K fd) : Binds K fd ["_law_number"] [] := F.bindsN fun _ _ _ _ _ _ us hl => match us, hl with | [_], _ => rfl
abbrev D_law_take (K : PySem.W.Frag) (fd : FuncData) : Prop := FunD K "_law_take" "_law_take" (defArgs s_law_take) (defBody s_law_take) (defScope s_law_take) [] [] (He.ga K "_law_take") fd
theorem bN_law_take {K : PySem.W.Frag} {fd : FuncData} (F : D_law_take K fd) : Binds K fd ["_law_bag_here", "_law_count"] [] := F.bindsN fun _ _ _ _ _ _ us hl => match us, hl with | [_, _], _ => rfl
abbrev D_law_digits (K : PySem.W.Frag) (fd : FuncData) : Prop := FunD K "_law_digits" "_law_digits" (defArgs s_law_digits) (defBody s_law_digits) (defScope s_law_digits) [] [] (He.ga K "_law_digits") fd
theorem bN_law_digits {K : PySem.W.Frag} {fd : FuncData} (F : D_law_digits K fd) : Binds K fd ["_law_bag_here"] [] := F.bindsN fun _ _ _ _ _ _ us hl => match us, hl with | [_], _ => rfl
abbrev D_law_value (K : PySem.W.Frag) (fd : FuncData) : Prop := FunD K "_law_value" "_law_value" (defArgs s_law_value) (defBody s_law_value) (defScope s_law_value) [] [] (He.ga K "_law_value") fd
theorem bN_law_value {K : PySem.W.Frag} {fd : FuncData} (F : D_law_value K fd) : Binds K fd ["_law_text_one"] [] := F.bindsN fun _ _ _ _ _ _ us hl => match us, hl with | [_], _ => rfl
abbrev D_law_between (K : PySem.W.Frag) (fd : FuncData) : Prop := FunD K "_law_between" "_law_between" (defArgs s_law_between) (defBody s_law_between) (defScope s_law_between) [] [] (He.ga K "_law_between") fd
theorem bN_law_between {K : PySem.W.Frag} {fd : FuncData} (F : D_law_between K fd) : Binds K fd ["_law_number", "_law_floor", "_law_top"] [] := F.bindsN fun _ _ _ _ _ _ us hl => match us, hl with | [_, _, _], _ => rfl
abbrev D_law_same (K : PySem.W.Frag) (fd : FuncData) : Prop := FunD K "_law_same" "_law_same" (defArgs s_law_same) (defBody s_law_same) (defScope s_law_same) [] [] (He.ga K "_law_same") fd
theorem bN_law_same {K : PySem.W.Frag} {fd : FuncData} (F : D_law_same K fd) : Binds K fd ["_law_found", "_law_expected"] [] := F.bindsN fun _ _ _ _ _ _ us hl => match us, hl with | [_, _], _ => rfl
abbrev D_law (K : PySem.W.Frag) (fd : FuncData) : Prop := FunD K "law" "law" (defArgs s_law) (defBody s_law) (defScope s_law) [] [] (He.ga K "law") fd
theorem bN_law {K : PySem.W.Frag} {fd : FuncData} (F : D_law K fd) : Binds K fd ["_law_script"] [] := F.bindsN fun _ _ _ _ _ _ us hl => match us, hl with | [_], _ => rfl
theorem bK0_parse_integer {K : PySem.W.Frag} {fd : FuncData} (F : D_parse_integer K fd) : KbD K fd ["text", "low", "high"] 0 ["text"] [.int (0), .int (999999)] [2, 0, 1] := kbD (ms := [("low", .int (0)), ("high", .int (999999))]) F (by simp) (by simp) fun _ _ _ _ _ _ us mv ws h1 h2 h3 => match us, mv, ws, h1, h2, h3 with | [], [_, _], [_], _, _, _ => ⟨_, _, _, _, _, _, rfl, rfl, ⟨_, _, _, _, _, _, rfl, rfl, rfl⟩⟩
theorem bK1_parse_integer {K : PySem.W.Frag} {fd : FuncData} (F : D_parse_integer K fd) : KbD K fd ["text", "low", "high"] 1 ["low"] [.int (999999)] [0, 2, 1] := kbD (ms := [("high", .int (999999))]) F (by simp) (by simp) fun _ _ _ _ _ _ us mv ws h1 h2 h3 => match us, mv, ws, h1, h2, h3 with | [_], [_], [_], _, _, _ => ⟨_, _, _, _, _, _, rfl, rfl, rfl⟩
theorem bK2_parse_integer {K : PySem.W.Frag} {fd : FuncData} (F : D_parse_integer K fd) : KbD K fd ["text", "low", "high"] 1 ["high"] [.int (0)] [0, 1, 2] := kbD (ms := [("low", .int (0))]) F (by simp) (by simp) fun _ _ _ _ _ _ us mv ws h1 h2 h3 => match us, mv, ws, h1, h2, h3 with | [_], [_], [_], _, _, _ => ⟨_, _, _, _, _, _, rfl, rfl, rfl⟩
theorem bK3_parse_integer {K : PySem.W.Frag} {fd : FuncData} (F : D_parse_integer K fd) : KbD K fd ["text", "low", "high"] 1 ["high", "low"] [] [0, 2, 1] := kbD (ms := []) F (by simp) (by simp) fun _ _ _ _ _ _ us mv ws h1 h2 h3 => match us, mv, ws, h1, h2, h3 with | [_], [], [_, _], _, _, _ => rfl
theorem bK4_parse_integer {K : PySem.W.Frag} {fd : FuncData} (F : D_parse_integer K fd) : KbD K fd ["text", "low", "high"] 1 ["low", "high"] [] [0, 1, 2] := kbD (ms := []) F (by simp) (by simp) fun _ _ _ _ _ _ us mv ws h1 h2 h3 => match us, mv, ws, h1, h2, h3 with | [_], [], [_, _], _, _, _ => rfl
theorem bK5_parse_integer {K : PySem.W.Frag} {fd : FuncData} (F : D_parse_integer K fd) : KbD K fd ["text", "low", "high"] 1 [] [.int (0), .int (999999)] [0, 1, 2] := kbD (ms := [("low", .int (0)), ("high", .int (999999))]) F (by simp) (by simp) fun _ _ _ _ _ _ us mv ws h1 h2 h3 => match us, mv, ws, h1, h2, h3 with | [_], [_, _], [], _, _, _ => ⟨_, _, _, _, _, _, rfl, rfl, ⟨_, _, _, _, _, _, rfl, rfl, rfl⟩⟩
structure Txt (K : PySem.W.Frag) (mg : Str → Option Value) : Prop where
  m_all : mg "all" = none
  m_bool : mg "bool" = none
  m_int : mg "int" = none
  m_isinstance : mg "isinstance" = none
  m_len : mg "len" = none
  m_max : mg "max" = none
  m_min : mg "min" = none
  m_range : mg "range" = none
  m_str : mg "str" = none
  m_parse_integer : mg "parse_integer" = some (.ref (He.ga K "parse_integer"))
  m_law_cell : mg "_law_cell" = some (.ref (He.ga K "_law_cell"))
  m_law_bag : mg "_law_bag" = some (.ref (He.ga K "_law_bag"))
  m_law_take : mg "_law_take" = some (.ref (He.ga K "_law_take"))
  m_law_digits : mg "_law_digits" = some (.ref (He.ga K "_law_digits"))
  m_law_value : mg "_law_value" = some (.ref (He.ga K "_law_value"))
  m_law_between : mg "_law_between" = some (.ref (He.ga K "_law_between"))
  m_law_same : mg "_law_same" = some (.ref (He.ga K "_law_same"))
  m_law : mg "law" = some (.ref (He.ga K "law"))
  F_parse_integer : D_parse_integer K (fdOf K (He.ga K "parse_integer"))
  F_law_cell : D_law_cell K (fdOf K (He.ga K "_law_cell"))
  F_law_bag : D_law_bag K (fdOf K (He.ga K "_law_bag"))
  F_law_take : D_law_take K (fdOf K (He.ga K "_law_take"))
  F_law_digits : D_law_digits K (fdOf K (He.ga K "_law_digits"))
  F_law_value : D_law_value K (fdOf K (He.ga K "_law_value"))
  F_law_between : D_law_between K (fdOf K (He.ga K "_law_between"))
  F_law_same : D_law_same K (fdOf K (He.ga K "_law_same"))
  F_law : D_law K (fdOf K (He.ga K "law"))
  c_MOST_DIGITS : ∃ t, mg "MOST_DIGITS" = some (.int (30) t)
  c_DIGITS : ∃ t, mg "DIGITS" = some (.str "0123456789" t)
section
variable {P : Program} {w : World} {K : PySem.W.Frag} {mg : Str → Option Value} {base : Heap}
def spLaw (K : PySem.W.Frag) : Sp := fun vs H Q _ => ∃ (a : Addr) (ns : List Int), vs = [.ref a] ∧ SqL K H a (ns.map V.int) ∧ ns.length ≤ 63 ∧ ∀ H', Q (.bl true) H'
def isDg (c : Nat) : Bool := decide (48 ≤ c ∧ c ≤ 57)
def parseL (l : List Nat) : Option Int := if 1 ≤ l.length ∧ l.length ≤ 30 ∧ l.all isDg = true ∧ ¬ (1 < l.length ∧ l.head? = some 48) then some (NumText.digitsVal l : Nat) else none
def betw (o : Option Int) (lo hi : Int) : Option Int := match o with
  | some n => if lo ≤ n ∧ n ≤ hi then some n else none
  | none => none
def oV : Option Int → V
  | none => .non
  | some n => .int n
theorem dg_in : ∀ c : Nat, decide (c ∈ tl "0123456789") = isDg c := fun c => by
  have e : tl "0123456789" = [48, 49, 50, 51, 52, 53, 54, 55, 56, 57] := by decide
  rw [e]
  refine decide_eq_decide.mpr ?_
  simp only [List.mem_cons, List.not_mem_nil, or_false]
  omega
theorem dgv_snoc (l : List Nat) (c : Nat) : NumText.digitsVal (l ++ [c]) = NumText.digitsVal l * 10 + (c - 48) := by
  unfold NumText.digitsVal
  rw [List.foldl_append]
  rfl
def Fits (l : List Nat) : Prop := 1 ≤ l.length ∧ l.length ≤ 30 ∧ ¬ (1 < l.length ∧ l.head? = some 48)
theorem parse_no {l : List Nat} (h : ¬ Fits l) : parseL l = none := if_neg fun z => h ⟨z.1, z.2.1, z.2.2.2⟩
theorem parse_nd {l : List Nat} (h : l.all isDg = false) : parseL l = none := if_neg fun z => by
  rw [z.2.2.1] at h
  cases h
theorem parse_yes {l : List Nat} (h : Fits l) (hd : l.all isDg = true) : parseL l = some (NumText.digitsVal l : Nat) := if_pos ⟨h.1, h.2.1, hd, h.2.2⟩
theorem dg_index {c : Nat} (h : isDg c = true) : ∃ rest, Builtin.Str.occurrences "0123456789" (mkS [c]) 0 (Str.length "0123456789") 1 = (c - 48) :: rest := by
  have h : 48 ≤ c ∧ c ≤ 57 := of_decide_eq_true h
  obtain rfl | rfl | rfl | rfl | rfl | rfl | rfl | rfl | rfl | rfl : c = 48 ∨ c = 49 ∨ c = 50 ∨ c = 51 ∨ c = 52 ∨ c = 53 ∨ c = 54 ∨ c = 55 ∨ c = 56 ∨ c = 57 := by omega
  all_goals exact ⟨[], by decide +kernel⟩
def spParse (K : PySem.W.Frag) : Sp := fun vs H Q _ => ∃ (v : V) (lo hi : Int), vs = [v, .int lo, .int hi] ∧ ((∃ z, v = .str z ∧ z.length ≤ 100000 ∧ ∀ H', Keep [] H H' → Q (oV (betw (parseL (tl z)) lo hi)) H') ∨ (NotStr K H v ∧ Q .non H))
def spValue : Sp := fun vs H Q _ => ∃ z : Str, vs = [.str z] ∧ z.length ≤ 100000 ∧ Q (oV (parseL (tl z))) H
def spBetween : Sp := fun vs H Q _ => ∃ (o : Option Int) (lo hi : Int), vs = [oV o, .int lo, .int hi] ∧ Q (oV (betw o lo hi)) H
def spSame : Sp := fun vs H Q _ => ∃ a b : Option Int, vs = [oV a, oV b] ∧ Q (.bl (decide (a = b))) H
def spDigits : Sp := fun vs H Q _ => ∃ (b : Addr) (n : Nat), vs = [.ref b] ∧ Bag H b n ∧ n + 100 < 1073741824 ∧ ∀ z H', z.length ≤ 100 → Keep [b] H H' → Bag H' b (n + 50) → Q (.str z) H'
theorem ok_law_take (T : Txt K mg) : FnOk P w K mg base CX0 1 (He.ga K "_law_take") (fdOf K (He.ga K "_law_take")) ["_law_bag_here", "_law_count"] (spTake) := by
  refine T.F_law_take.ok sc_law_take (fun vs H Q E h => ?len) (fun cdv A outer s H vs Q E hr h => ?body)
  case len =>
    obtain ⟨b, m, n, rfl, _⟩ := h
    rfl
  case body =>
    obtain ⟨b, m, n, rfl, hm0, hm1, ⟨x, y, z, hb, hx, hy0, hy1, hz0, hz1⟩, hn, q⟩ := h
    have nd := sc_law_take.nd
    have hu := hu_of hr
    refine ⟨_, PSs.nox (pss_cons (ps_if (pt_cmpR op_gt (pe_ix ix_list (pv 0) pe_int (fun _ _ => rfl)) pe_int (nomark _))
        (pss_cons (ps_set (i := 2) nd rfl (Or.inl rfl) (pe_op op_mod (pe_ix ix_list (pv 0) pe_int (fun _ _ => rfl)) (pv 1)))
        (pss_cons (ps_asg (pe_op op_fdiv (pe_ix ix_list (pv 0) pe_int (fun _ _ => rfl)) (pv 1)) (pg_sub (pv 0) pe_int set_list))
        (pss_one (ps_ret (pv 2)))))
        (pss_nil))
      (pss_cons (ps_asg (pe_op op_add (pe_ix ix_list (pv 0) pe_int (fun _ _ => rfl)) pe_int) (pg_sub (pv 0) pe_int set_list))
      (pss_cons (ps_set (i := 3) nd rfl (Or.inl rfl) (pe_op op_mod (pe_op op_pow (pe_op op_add (pe_op op_add (pe_ix ix_list (pv 0) pe_int (fun _ _ => rfl)) (pe_op op_mul pe_int (pe_ix ix_list (pv 0) pe_int (fun _ _ => rfl)))) pe_int) pe_int) pe_int))
      (pss_cons (ps_set (i := 3) nd rfl (Or.inl rfl) (pe_op op_mod (pe_op op_pow (pe_op op_add (pv 3) (pe_op op_mul pe_int (pe_ix ix_list (pv 0) pe_int (fun _ _ => rfl)))) pe_int) pe_int))
      (pss_one (ps_ret (pe_op op_mod (pe_op op_fdiv (pv 3) pe_int) (pv 1)))))))), ?_⟩
    walk_at "ss"
    refine w_ite (fun hpos => ?_) (fun hpos => ?_)
    · walk_at "ss"
      exact q _ _ (Int.emod_nonneg _ (by omega)) (Int.emod_lt_of_pos _ hm0) (Keep.set (by simp)) ⟨x / m, y, z, upd_same, Int.ediv_nonneg hx (by omega), hy0, hy1, hz0, by omega⟩
    · walk_at "ss"
      exact q _ _ (Int.emod_nonneg _ (by omega)) (Int.emod_lt_of_pos _ hm0) (Keep.set (by simp)) ⟨x, y, z + 1, upd_same, hx, hy0, hy1, by omega, by omega⟩
theorem ok_law_cell (T : Txt K mg) : FnOk P w K mg base CX0 1 (He.ga K "_law_cell") (fdOf K (He.ga K "_law_cell")) ["_law_script", "_law_k"] (spCell K) := by
  refine T.F_law_cell.ok sc_law_cell (fun vs H Q E h => ?len) (fun cdv A outer s H vs Q E hr h => ?body)
  case len =>
    obtain ⟨a, ns, k, rfl, _⟩ := h
    rfl
  case body =>
    obtain ⟨a, ns, k, rfl, hS, hk, q⟩ := h
    have nd := sc_law_cell.nd
    have hu := hu_of hr
    refine ⟨_, PSs.nox (pss_cons (ps_if (pt_cmpR op_lt (pv 1) (pe_callB call_len_seq (by rfl) T.m_len PySem.boot_len (pa_cons (pv 0) pa_nil)) (nomark _))
        (pss_one (ps_ret (pe_ix ix_list (pv 0) (pv 1) (fun _ _ => rfl))))
        (pss_nil))
      (pss_one (ps_ret (pe_op op_add (pe_op op_mul pe_int (pv 1)) pe_int)))), ?_⟩
    walk_at "ss"
    refine ⟨a, ns.map V.int, rfl, .inl hS, ?_⟩
    walk_at "ss"
    refine w_ite (fun hlt => ?_) (fun hlt => ?_)
    · rw [len_ints] at hlt
      walk_at "ss"
      exact w_ixLS hS (at_ints (by omega)) (q _)
    · walk_at "ss"
      exact q _
theorem ok_law_bag (T : Txt K mg) : FnOk P w K mg base CX0 1 (He.ga K "_law_bag") (fdOf K (He.ga K "_law_bag")) ["_law_number"] (spBag) := by
  refine T.F_law_bag.ok sc_law_bag (fun vs H Q E h => ?len) (fun cdv A outer s H vs Q E hr h => ?body)
  case len =>
    obtain ⟨n, rfl, _⟩ := h
    rfl
  case body =>
    obtain ⟨n, rfl, q⟩ := h
    have nd := sc_law_bag.nd
    have hu := hu_of hr
    refine ⟨_, PSs.nox (pss_one (ps_ret (pe_lst (pa_cons (pe_callB (call_max2 rfl) (by rfl) T.m_max (by decide +kernel) (pa_cons pe_int (pa_cons (pe_op op_sub (pv 0) (pe_op op_pow pe_int pe_int)) pa_nil))) (pa_cons (pe_op op_mod (pv 0) pe_int) (pa_cons pe_int pa_nil)))))), ?_⟩
    walk_at "ss"
    refine fun p hp => q p _ hp ?_
    refine ⟨_, _, 0, upd_same, ?_, Int.emod_nonneg _ (by decide), Int.lt_of_lt_of_le (Int.emod_lt_of_pos _ (by decide)) (by decide), by decide, by decide⟩
    split <;> omega
theorem ok_law_between (T : Txt K mg) : FnOk P w K mg base CX0 1 (He.ga K "_law_between") (fdOf K (He.ga K "_law_between")) ["_law_number", "_law_floor", "_law_top"] (spBetween) := by
  refine T.F_law_between.ok sc_law_between (fun vs H Q E h => ?len) (fun cdv A outer s H vs Q E hr h => ?body)
  case len =>
    obtain ⟨o, lo, hi, rfl, _⟩ := h
    rfl
  case body =>
    obtain ⟨o, lo, hi, rfl, q⟩ := h
    have nd := sc_law_between.nd
    have hu := hu_of hr
    refine ⟨_, PSs.nox (pss_cons (ps_if (PW.pt (pw_or (pt_cmpR op_isN (pv 0) pe_non (nomark _)) (pw_or (pt_cmpR op_lt (pv 0) (pv 1) (nomark _)) (pw_or1 (pt_cmpR op_gt (pv 0) (pv 2) (nomark _))))))
        (pss_one (ps_ret (pe_non)))
        (pss_nil))
      (pss_one (ps_ret (pv 0)))), ?_⟩
    walk_at "ss"
    cases o with
    | none =>
      refine w_ite (fun _ => ?_) (fun e => absurd rfl e)
      walk_at "ss"
      exact q
    | some n =>
      refine w_ite (fun e => by cases e) (fun _ => ?_)
      walk_at "ss"
      have q : Q (oV (if lo ≤ n ∧ n ≤ hi then some n else none)) H := q
      refine w_I0 ?_
      walk_at "ss"
      refine w_ite (fun e => ?_) (fun e => ?_)
      · walk_at "ss"
        rw [if_neg (by omega)] at q
        exact q
      · walk_at "ss"
        refine w_I0 ?_
        walk_at "ss"
        refine w_ite (fun e2 => ?_) (fun e2 => ?_)
        · walk_at "ss"
          rw [if_neg (by omega)] at q
          exact q
        · walk_at "ss"
          rw [if_pos (by omega)] at q
          exact q
theorem ok_law_same (T : Txt K mg) : FnOk P w K mg base CX0 1 (He.ga K "_law_same") (fdOf K (He.ga K "_law_same")) ["_law_found", "_law_expected"] (spSame) := by
  refine T.F_law_same.ok sc_law_same (fun vs H Q E h => ?len) (fun cdv A outer s H vs Q E hr h => ?body)
  case len =>
    obtain ⟨a, b, rfl, _⟩ := h
    rfl
  case body =>
    obtain ⟨a, b, rfl, q⟩ := h
    have nd := sc_law_same.nd
    have hu := hu_of hr
    refine ⟨_, PSs.nox (pss_cons (ps_if (pt_cmpR op_isN (pv 1) pe_non (nomark _))
        (pss_one (ps_ret (pe_cmpR op_isN (pv 0) pe_non (nomark _))))
        (pss_nil))
      (pss_one (ps_ret (pe_and (pe_callB call_isi (by rfl) T.m_isinstance (by decide +kernel) (pa_cons (pv 0) (pa_cons (pe_bltn (v := .ty "int") (by rfl) T.m_int (by decide +kernel) rfl) pa_nil))) (pe_and (pe_not (pe_callB call_isi (by rfl) T.m_isinstance (by decide +kernel) (pa_cons (pv 0) (pa_cons (pe_bltn (v := .ty "bool") (by rfl) T.m_bool (by decide +kernel) rfl) pa_nil)))) (pe_one (pe_cmpR op_eq (pv 0) (pv 1) (nomark _)))))))), ?_⟩
    walk_at "ss"
    cases b with
    | none =>
      refine w_ite (fun _ => ?_) (fun e => absurd rfl e)
      walk_at "ss"
      have e : decide (oV a = .non) = decide (a = none) := by
        cases a <;> simp [oV]
      rw [e]
      exact q
    | some m =>
      refine w_ite (fun e => by cases e) (fun _ => ?_)
      walk_at "ss"
      cases a with
      | none =>
        refine w_isi (.base .non) (b := false) (by decide +kernel) ?_
        walk_at "ss"
        exact q
      | some n =>
        refine w_isi (.base (.int n)) (b := true) (by decide +kernel) ?_
        walk_at "ss"
        refine w_isi (.base (.int n)) (b := false) (by decide +kernel) ?_
        walk_at "ss"
        have e : decide (oV (some n) = oV (some m)) = decide (some n = some m) := by
          simp [oV]
        rw [e]
        exact q
theorem ok_law_value (T : Txt K mg) : FnOk P w K mg base CX0 1 (He.ga K "_law_value") (fdOf K (He.ga K "_law_value")) ["_law_text_one"] (spValue) := by
  refine T.F_law_value.ok sc_law_value (fun vs H Q E h => ?len) (fun cdv A outer s H vs Q E hr h => ?body)
  case len =>
    obtain ⟨z, rfl, _⟩ := h
    rfl
  case body =>
    obtain ⟨z, rfl, hz, q⟩ := h
    have hlen := len_tl z
    have nd := sc_law_value.nd
    have hu := hu_of hr
    refine ⟨_, PSs.nox (pss_cut (ps_if (PW.pt (pw_or (pt_cmpR op_eq (pe_callB call_len_str (by rfl) T.m_len PySem.boot_len (pa_cons (pv 0) pa_nil)) pe_int (nomark _)) (pw_or (pt_cmpR op_gt (pe_callB call_len_str (by rfl) T.m_len PySem.boot_len (pa_cons (pv 0) pa_nil)) pe_int (nomark _)) (pw_or1 (PW.pt (pw_and (pt_cmpR op_gt (pe_callB call_len_str (by rfl) T.m_len PySem.boot_len (pa_cons (pv 0) pa_nil)) pe_int (nomark _)) (pw_and1 (pt_cmpR op_eq (pe_ix ix_str (pv 0) pe_int (fun _ _ => rfl)) pe_str (nomark _)))))))))
        (pss_one (ps_ret (pe_non)))
        (pss_nil))
      (pss_cons (ps_set (i := 1) nd rfl (Or.inl rfl) (pe_int))
      (pss_cons (ps_for PassesOwn.never rfl (pi_str (pv 0)) (pg_name (i := 2) nd rfl (Or.inl rfl))
        (pss_cons (ps_if (pt_cmpR op_notIn_sign (pv 2) pe_str (by rfl))
          (pss_one (ps_ret (pe_non)))
          (pss_nil))
        (pss_one (ps_set (i := 1) nd rfl (Or.inl rfl) (pe_op op_add (pe_op op_mul pe_int (pv 1)) (pe_m1 PySem.F.slot_str_index PySem.F.type_str_index mt_sindex pe_str (pv 2)))))))
      (pss_one (ps_ret (pv 1)))))), ?_⟩
    walk_at "ss"
    refine ⟨fun σ' H' => Hold <| σ' = [some (.str z), none, none] ∧ H' = H ∧ Fits (tl z), ?_, ?_⟩
    · walk_at "ss"
      refine w_iteI (fun e => ?_) (fun e => ?_)
      · walk_at "ss"
        rw [parse_no (fun z => by have := z.1; omega)] at q
        exact q
      · walk_at "ss"
        refine w_ite (fun e2 => ?_) (fun e2 => ?_)
        · walk_at "ss"
          rw [parse_no (fun z => by have := z.2.1; omega)] at q
          exact q
        · walk_at "ss"
          refine w_ite (fun e3 => ?_) (fun e3 => ?_)
          · walk_at "ss"
            obtain ⟨c, r, ec, hc⟩ := head_at (l := tl z) (fun z => by rw [z] at hlen; simp at hlen; omega)
            refine w_ixS (le_line (by omega)) hc ?_
            walk_at "ss"
            refine w_iteS (fun e4 => ?_) (fun e4 => ?_)
            · have e4 : c = 48 := one_eq.mp e4
              walk_at "ss"
              rw [parse_no (fun z => z.2.2 ⟨by omega, by rw [ec, e4]; rfl⟩)] at q
              exact q
            · walk_at "ss"
              exact ⟨rfl, rfl, by omega, by omega, fun z => e4 (one_eq.mpr (by have z2 := z.2; rw [ec] at z2; exact Option.some.inj z2))⟩
          · walk_at "ss"
            exact ⟨rfl, rfl, by omega, by omega, fun z => by have := z.1; omega⟩
    rintro σ' H' ⟨rfl, rfl, hf⟩
    walk_at "ss"
    refine for_text (fun i σ' H1 => Hold <| ∃ y2, σ' = [some (.str z), some (.int (NumText.digitsVal ((tl z).take i) : Nat)), y2] ∧ H1 = H' ∧ ((tl z).take i).all isDg = true) ?_ ?_ ?_
    · exact ⟨_, rfl, rfl, rfl⟩
    · rintro i c σ' H1 hc ⟨y2, rfl, rfl, hd⟩
      have ht : (tl z).take (i + 1) = (tl z).take i ++ [c] := by
        rw [List.take_add_one, hc]
        rfl
      walk_at "ss"
      refine ⟨c, _, rfl, rfl, ?_⟩
      rw [dg_in]
      walk_at "ss"
      cases hcd : isDg c with
      | false =>
        walk_at "ss"
        rw [parse_nd] at q
        · exact q
        · refine Bool.eq_false_iff.mpr fun z => ?_
          have := List.all_eq_true.mp z c (List.mem_of_getElem? hc)
          rw [hcd] at this
          cases this
      | true =>
        walk_at "ss"
        obtain ⟨rest, ho⟩ := dg_index hcd
        refine ⟨_, _, _, _, rfl, rfl, ho, ?_⟩
        walk_at "ss"
        have hcd2 : 48 ≤ c ∧ c ≤ 57 := of_decide_eq_true hcd
        refine ⟨some (.str (mkS [c])), ?_, rfl, ?_⟩
        · rw [ht, dgv_snoc]
          have e : (10 : Int) * ((NumText.digitsVal ((tl z).take i) : Nat) : Int) + ((c - 48 : Nat) : Int) = ((NumText.digitsVal ((tl z).take i) * 10 + (c - 48) : Nat) : Int) := by omega
          rw [← e]
          rfl
        · rw [ht, List.all_append, hd]
          simpa using hcd
    · rintro σ' H1 ⟨y2, rfl, rfl, hd⟩
      rw [List.take_length] at hd ⊢
      walk_at "ss"
      rw [parse_yes hf hd] at q
      exact q
theorem ok_parse_integer (T : Txt K mg) : FnOk P w K mg base CX0 1 (He.ga K "parse_integer") (fdOf K (He.ga K "parse_integer")) ["text", "low", "high"] (spParse K) := by
  refine T.F_parse_integer.ok sc_parse_integer (fun vs H Q E h => ?len) (fun cdv A outer s H vs Q E hr h => ?body)
  case len =>
    obtain ⟨v, lo, hi, rfl, _⟩ := h
    rfl
  case body =>
    obtain ⟨v, lo, hi, rfl, h⟩ := h
    obtain ⟨tk_DIGITS, c_DIGITS⟩ := T.c_DIGITS
    obtain ⟨tk_MOST_DIGITS, c_MOST_DIGITS⟩ := T.c_MOST_DIGITS
    have nd := sc_parse_integer.nd
    have hu := hu_of hr
    refine ⟨_, PSs.nox (pss_cons (ps_if (PW.pt (pw_or (pt_not (pt_val (pe_callB call_isi (by rfl) T.m_isinstance (by decide +kernel) (pa_cons (pv 0) (pa_cons (pe_bltn (v := .ty "str") (by rfl) T.m_str (by decide +kernel) rfl) pa_nil))))) (pw_or1 (pt_not (pt_chain op_le op_le pe_int (pe_callB call_len_str (by rfl) T.m_len PySem.boot_len (pa_cons (pv 0) pa_nil)) (pe_glob (v := .int (30)) rfl c_MOST_DIGITS ⟨_, rfl⟩))))))
        (pss_one (ps_ret (pe_non)))
        (pss_nil))
      (pss_cut (ps_if (PW.pt (pw_or (pt_not (pt_val (pe_callB (cr_all rfl) (by rfl) T.m_all (by decide +kernel) (pa_cons (pe_lc (own := [("sign", 3)]) (g := gName 3) rfl nd (pi_str (pv 0)) (blkOk_by (own := [("sign", 3)]) (N := N_parse_integer) (sc := defScope s_parse_integer) (by decide +kernel)) (fun _ _ _ _ _ => pg_name (i := 3) nd rfl (Or.inl rfl)) (fun _ _ _ _ _ => pts_nil) (fun _ _ _ _ _ => pe_cmpR op_in_sign (pv 3) (pe_glob (v := .str "0123456789") rfl c_DIGITS ⟨_, rfl⟩) (by rfl))) pa_nil)))) (pw_or1 (PW.pt (pw_and (pt_cmpR op_gt (pe_callB call_len_str (by rfl) T.m_len PySem.boot_len (pa_cons (pv 0) pa_nil)) pe_int (nomark _)) (pw_and1 (pt_cmpR op_eq (pe_ix ix_str (pv 0) pe_int (fun _ _ => rfl)) pe_str (nomark _))))))))
        (pss_one (ps_ret (pe_non)))
        (pss_nil))
      (pss_cons (ps_set (i := 4) nd rfl (Or.inl rfl) (pe_callTy call_int_str (by rfl) T.m_int (by decide +kernel) (pa_cons (pv 0) pa_nil)))
      (pss_one (ps_ret (pe_ifExp (pt_chain op_le op_le (pv 1) (pv 4) (pv 2)) (pv 4) pe_non)))))), ?_⟩
    walk_at "ss"
    rcases h with ⟨z, rfl, hz, q⟩ | ⟨⟨T, ty, hT⟩, q⟩
    · have hlen := len_tl z
      refine w_isi (.base (.str z)) (b := true) (by decide +kernel) ?_
      walk_at "ss"
      refine w_ite (fun e1 => ?_) (fun e1 => ?_)
      · walk_at "ss"
        refine w_iteN (fun e2 => ?_) (fun e2 => ?_)
        · walk_at "ss"
          have := q H (Keep.refl H)
          rw [parse_no (fun z => by have := z.2.1; omega)] at this
          exact this
        · walk_at "ss"
          refine ⟨fun σ' H' => Hold <| σ' = [some (.str z), some (.int lo), some (.int hi), none, none] ∧ Keep [] H H' ∧ Fits (tl z) ∧ (tl z).all isDg = true, ?_, ?_⟩
          · walk_at "ss"
            intro p hp
            refine lc_text (fun i acc H' => Hold (Keep [] H H' ∧ acc = (((tl z).take i).map isDg).map V.bl)) ?_ ?_ ?_
            · exact ⟨Keep.new hp, rfl⟩
            · rintro i acc c H1 hc ⟨k1, ha1⟩ e1
              have hi := (List.getElem?_eq_some_iff.mp hc).1
              walk_at "ss"
              refine ⟨c, _, rfl, rfl, ?_⟩
              rw [dg_in]
              refine ⟨acc, e1, lt_line ?_, _, upd_same, k1.updNew hp, ?_⟩
              · rw [ha1, List.length_map, List.length_map, List.length_take]
                omega
              · rw [ha1, take_snoc hc, List.map_append, List.map_append]
                rfl
            rintro acc H1 ⟨k1, ha1⟩ e1
            rw [List.take_length] at ha1
            subst ha1
            walk_at "ss"
            refine ⟨p, _, rfl, SqL.of e1, ?_⟩
            have eall : ((tl z).map isDg).all id = (tl z).all isDg := by
              rw [List.all_map]
              rfl
            rw [eall]
            walk_at "ss"
            cases had : (tl z).all isDg with
            | false =>
              walk_at "ss"
              have := q _ k1
              rw [parse_nd had] at this
              exact this
            | true =>
              walk_at "ss"
              refine w_ite (fun e3 => ?_) (fun e3 => ?_)
              · walk_at "ss"
                obtain ⟨c, r, ec, hc⟩ := head_at (l := tl z) (fun z => by rw [z] at hlen; simp at hlen; omega)
                refine w_ixS (le_line (by omega)) hc ?_
                walk_at "ss"
                refine w_iteS (fun e4 => ?_) (fun e4 => ?_)
                · have e4 : c = 48 := one_eq.mp e4
                  walk_at "ss"
                  have := q _ k1
                  rw [parse_no (fun z => z.2.2 ⟨by omega, by rw [ec, e4]; rfl⟩)] at this
                  exact this
                · walk_at "ss"
                  exact ⟨rfl, k1, ⟨by omega, by omega, fun z => e4 (one_eq.mpr (by have z2 := z.2; rw [ec] at z2; exact Option.some.inj z2))⟩, rfl⟩
              · walk_at "ss"
                exact ⟨rfl, k1, ⟨by omega, by omega, fun z => by have := z.1; omega⟩, rfl⟩
          rintro σ' H1 ⟨rfl, k1, hf, hd⟩
          walk_at "ss"
          refine ⟨z, _, rfl, PySem.intText_digits (fun c hc => ?_) (fun e => ?_) (by omega), by omega, ?_⟩
          · exact of_decide_eq_true (List.all_eq_true.mp hd c hc)
          · rw [show tl z = [] from e] at hlen
            simp at hlen
            omega
          have q1 := q H1 k1
          rw [parse_yes hf hd] at q1
          have q1 : Q (oV (if lo ≤ _ ∧ _ ≤ hi then some _ else none)) H1 := q1
          walk_at "ss"
          refine w_ite (fun e5 => ?_) (fun e5 => ?_)
          · walk_at "ss"
            refine w_ite (fun e6 => ?_) (fun e6 => ?_)
            · walk_at "ss"
              rw [if_pos ⟨e5, e6⟩] at q1
              exact q1
            · walk_at "ss"
              rw [if_neg (fun z => e6 z.2)] at q1
              exact q1
          · walk_at "ss"
            rw [if_neg (fun z => e5 z.1)] at q1
            exact q1
      · walk_at "ss"
        have := q H (Keep.refl H)
        rw [parse_no (fun z => by have := z.1; omega)] at this
        exact this
    · refine w_isi ty hT ?_
      walk_at "ss"
      exact q
theorem ok_law_digits (T : Txt K mg) : FnOk P w K mg base CX0 2 (He.ga K "_law_digits") (fdOf K (He.ga K "_law_digits")) ["_law_bag_here"] (spDigits) := by
  refine T.F_law_digits.ok sc_law_digits (fun vs H Q E h => ?len) (fun cdv A outer s H vs Q E hr h => ?body)
  case len =>
    obtain ⟨b, n, rfl, _⟩ := h
    rfl
  case body =>
    obtain ⟨b, n, rfl, hB, hn, q⟩ := h
    have nd := sc_law_digits.nd
    have hu := hu_of hr
    refine ⟨_, PSs.nox (pss_cons (ps_set (i := 1) nd rfl (Or.inl rfl) (pe_ix ix_list (pe_lst (pa_cons (pe_op op_add pe_int (pe_call (ok_law_take T) (hr.mono (by decide)) (by rfl) T.m_law_take T.F_law_take.kp (bN_law_take T.F_law_take) .nil pass0 (pa_cons (pv 0) (pa_cons pe_int pa_nil)))) (pa_cons (pe_op op_add pe_int (pe_call (ok_law_take T) (hr.mono (by decide)) (by rfl) T.m_law_take T.F_law_take.kp (bN_law_take T.F_law_take) .nil pass0 (pa_cons (pv 0) (pa_cons pe_int pa_nil)))) (pa_cons pe_int (pa_cons pe_int pa_nil))))) (pe_call (ok_law_take T) (hr.mono (by decide)) (by rfl) T.m_law_take T.F_law_take.kp (bN_law_take T.F_law_take) .nil pass0 (pa_cons (pv 0) (pa_cons pe_int pa_nil))) (fun _ _ => rfl)))
      (pss_cons (ps_set (i := 2) nd rfl (Or.inl rfl) (pe_join pe_str (pe_lc (own := [("_law_k", 3)]) (g := gName 3) rfl nd (pi_range1 rfl T.m_range (pa_cons (pv 1) pa_nil)) (blkOk_by (own := [("_law_k", 3)]) (N := N_law_digits) (sc := defScope s_law_digits) (by decide +kernel)) (fun _ _ _ _ _ => pg_name (i := 3) nd rfl (Or.inl rfl)) (fun _ _ _ _ _ => pts_nil) (fun _ _ _ _ _ => pe_ix ix_str pe_str (pe_call (ok_law_take T) (hr.mono (by decide)) (by rfl) T.m_law_take T.F_law_take.kp (bN_law_take T.F_law_take) .nil pass0 (pa_cons (pv 0) (pa_cons pe_int pa_nil))) (fun _ _ => rfl)))))
      (pss_cons (ps_par (i := 4) (j := 5) (by rfl) nd rfl rfl (by decide) rfl rfl (pa_cons (pe_call (ok_law_take T) (hr.mono (by decide)) (by rfl) T.m_law_take T.F_law_take.kp (bN_law_take T.F_law_take) .nil pass0 (pa_cons (pv 0) (pa_cons pe_int pa_nil))) (pa_cons (pe_call (ok_law_take T) (hr.mono (by decide)) (by rfl) T.m_law_take T.F_law_take.kp (bN_law_take T.F_law_take) .nil pass0 (pa_cons (pv 0) (pa_cons (pe_op op_add (pv 1) pe_int) pa_nil))) pa_nil)) (by rfl))
      (pss_cons (ps_if (pt_cmpR op_eq (pv 4) pe_int (nomark _))
        (pss_one (ps_ret (pe_op op_addT (pe_op op_addT (pe_slice sl_str (pv 2) po_none (po_some (pv 5))) (pe_ix ix_str pe_str (pe_call (ok_law_take T) (hr.mono (by decide)) (by rfl) T.m_law_take T.F_law_take.kp (bN_law_take T.F_law_take) .nil pass0 (pa_cons (pv 0) (pa_cons pe_int pa_nil))) (fun _ _ => rfl))) (pe_slice sl_str (pv 2) (po_some (pv 5)) po_none))))
        (pss_nil))
      (pss_cons (ps_if (pt_cmpR op_eq (pv 4) pe_int (nomark _))
        (pss_one (ps_ret (pe_op op_addT pe_str (pv 2))))
        (pss_nil))
      (pss_one (ps_ret (pv 2)))))))), ?_⟩
    walk_at "ss"
    refine take_go (by decide) (by decide) hB (by omega) fun r0 H0 r00 r01 k0 hB0 => ?_
    walk_at "ss"
    refine take_go (by decide) (by decide) hB0 (by omega) fun r1 H1 r10 r11 k1 hB1 => ?_
    walk_at "ss"
    intro p1 hp1
    walk_at "ss"
    refine take_go (by decide) (by decide) (hB1.new hp1) (by omega) fun r2 H2 r20 r21 k2 hB2 => ?_
    obtain ⟨v, hv, m, rfl, hm1, hm2⟩ := at_all (xs := [V.int (1 + r0), V.int (1 + r1), V.int 30, V.int 31]) (p := fun v => ∃ m : Int, v = V.int m ∧ 1 ≤ m ∧ m ≤ 32) r20 r21 (by
      simp only [List.forall_mem_cons]
      exact ⟨⟨_, rfl, by omega, by omega⟩, ⟨_, rfl, by omega, by omega⟩, ⟨_, rfl, by omega, by omega⟩, ⟨_, rfl, by omega, by omega⟩, fun _ h => by cases h⟩)
    refine w_ixL (k2.get upd_same (by simpa using hB1.ne hp1)) hv ?_
    have k3 : Keep [b] H H2 := ((k0.trans k1).trans (Keep.new hp1)).trans k2
    walk_at "ss"
    refine ⟨by omega, by omega, fun p2 hp2 => ?_⟩
    have hp2b := hB2.ne hp2
    refine lc_rng (fun j acc H' => Hold (Keep [b] H2 H' ∧ Bag H' b (n + 3 + j) ∧ acc.length = j ∧ ∀ v ∈ acc, ∃ c, v = V.str (mkS [c]) ∧ True)) ?_ ?_ ?_
    · exact ⟨Keep.new hp2, hB2.new hp2, rfl, fun v hv => by cases hv⟩
    · rintro j acc H3 hj ⟨k4, hB3, hl3, hv3⟩ e3
      walk_at "ss"
      refine take_go (by decide) (by decide) hB3 (by omega) fun r4 H4 r40 r41 k5 hB4 => ?_
      obtain ⟨d, _, hd⟩ := atS (z := "0123456789") r40 r41
      refine w_ixS (le_line (by decide)) hd ?_
      exact ⟨acc, k5.get e3 (by simpa using hp2b), lt_line (by omega), _, upd_same, (k4.trans k5).updNew hp2, (hB4.mono (by omega)).upd hp2b.symm, by simp [hl3], all_snoc hv3 ⟨d, rfl, trivial⟩⟩
    rintro acc H3 ⟨k4, hB3, hl3, hv3⟩ e3
    obtain ⟨cs, rfl, _⟩ := one_strs hv3
    rw [List.length_map, List.length_map] at hl3
    walk_at "ss"
    refine ⟨"", p2, _, rfl, rfl, .inl (SqL.of e3), by rw [sum_ones, List.length_map]; show cs.length + cs.length * 0 ≤ _; omega, ?_⟩
    rw [Fr.join_ones]
    have hcl : (mkS cs).length ≤ 32 := by
      rw [mkS_len]
      omega
    generalize mkS cs = z at hcl ⊢
    walk_at "ss"
    refine take_go (by decide) (by decide) hB3 (by omega) fun r4 H4 r40 r41 k5 hB4 => ?_
    walk_at "ss"
    refine take_go (by omega) (by omega) hB4 (by omega) fun r5 H5 r50 r51 k6 hB5 => ?_
    have k7 : Keep [b] H H5 := ((k3.trans k4).trans k5).trans k6
    have h1 := cutS_length z none (some r5)
    have h2 := cutS_length z (some r5) none
    walk_at "ss"
    refine w_iteI (fun _ => ?_) (fun _ => ?_)
    · walk_at "ss"
      refine take_go (by decide) (by decide) hB5 (by omega) fun r6 H6 r60 r61 k8 hB6 => ?_
      obtain ⟨d, _, hd⟩ := atS (z := " -+a._\n") r60 r61
      refine w_ixS (le_line (by decide)) hd ?_
      walk_at "ss"
      exact q _ _ (by simp only [app_len, mkS_len, List.length_cons, List.length_nil]; omega) (k7.trans k8) (hB6.mono (by omega))
    · walk_at "ss"
      refine w_iteI (fun _ => ?_) (fun _ => ?_)
      · have h3 : (Str.ofString "0").length = 1 := rfl
        walk_at "ss"
        exact q _ _ (by rw [app_len]; omega) k7 (hB5.mono (by omega))
      · walk_at "ss"
        exact q _ _ (by omega) k7 (hB5.mono (by omega))
end
section
variable {P : Program} {w : World} {K : PySem.W.Frag} {mg : Str → Option Value} {base : Heap}
theorem parse_go {K : PySem.W.Frag} {z : Str} {lo hi : Int} {H : Hp} {Q : VK} {E : XK} (hz : z.length ≤ 100000) (q : ∀ H', Keep [] H H' → Q (oV (betw (parseL (tl z)) lo hi)) H') : spParse K [.str z, .int lo, .int hi] H Q E := ⟨_, lo, hi, rfl, .inl ⟨z, rfl, hz, q⟩⟩
theorem parseN_go {K : PySem.W.Frag} {v : V} {lo hi : Int} {H : Hp} {Q : VK} {E : XK} (hv : NotStr K H v ∨ v = .str "") (q : ∀ H', Keep [] H H' → Q .non H') : spParse K [v, .int lo, .int hi] H Q E := by
  rcases hv with hv | rfl
  · exact ⟨v, lo, hi, rfl, .inr ⟨hv, q H (Keep.refl H)⟩⟩
  · refine parse_go (by decide) fun H' k => ?_
    have e : betw (parseL (tl "")) lo hi = none := rfl
    rw [e]
    exact q H' k
theorem betw_go {o : Option Int} {lo hi : Int} {H : Hp} {Q : VK} {E : XK} (q : Q (oV (betw o lo hi)) H) : spBetween [oV o, .int lo, .int hi] H Q E := ⟨o, lo, hi, rfl, q⟩
theorem same_go {a : Option Int} {H : Hp} {Q : VK} {E : XK} (q : Q (.bl true) H) : spSame [oV a, oV a] H Q E := ⟨a, a, rfl, by rw [decide_eq_true rfl]; exact q⟩
theorem ok_law (T : Txt K mg) : FnOk P w K mg base CX0 5 (He.ga K "law") (fdOf K (He.ga K "law")) ["_law_script"] (spLaw K) := by
  refine T.F_law.ok sc_law (fun vs H Q E h => ?len) (fun cdv A outer s H vs Q E hr h => ?body)
  case len =>
    obtain ⟨a, ns, rfl, _⟩ := h
    rfl
  case body =>
    obtain ⟨a, ns, rfl, hS, hns, q⟩ := h
    have nd := sc_law.nd
    have hu := hu_of hr
    refine ⟨_, PSs.nox (pss_cons (ps_for PassesOwn.never rfl (pi_range1 rfl T.m_range (pa_cons (pe_callB (call_max2 rfl) (by rfl) T.m_max (by decide +kernel) (pa_cons pe_int (pa_cons (pe_callB (call_min2 rfl) (by rfl) T.m_min (by decide +kernel) (pa_cons pe_int (pa_cons (pe_callB call_len_seq (by rfl) T.m_len PySem.boot_len (pa_cons (pv 0) pa_nil)) pa_nil))) pa_nil))) pa_nil)) (pg_name (i := 1) nd rfl (Or.inl rfl))
        (pss_cons (ps_set (i := 2) nd rfl (Or.inl rfl) (pe_call (ok_law_bag T) (hr.mono (by decide)) (by rfl) T.m_law_bag T.F_law_bag.kp (bN_law_bag T.F_law_bag) .nil pass0 (pa_cons (pe_call (ok_law_cell T) (hr.mono (by decide)) (by rfl) T.m_law_cell T.F_law_cell.kp (bN_law_cell T.F_law_cell) .nil pass0 (pa_cons (pv 0) (pa_cons (pv 1) pa_nil))) pa_nil)))
        (pss_cons (ps_set (i := 3) nd rfl (Or.inl rfl) (pe_call (ok_law_digits T) (hr.mono (by decide)) (by rfl) T.m_law_digits T.F_law_digits.kp (bN_law_digits T.F_law_digits) .nil pass0 (pa_cons (pv 2) pa_nil)))
        (pss_cons (ps_set (i := 4) nd rfl (Or.inl rfl) (pe_call (ok_law_value T) (hr.mono (by decide)) (by rfl) T.m_law_value T.F_law_value.kp (bN_law_value T.F_law_value) .nil pass0 (pa_cons (pv 3) pa_nil)))
        (pss_cut (ps_set (i := 5) nd rfl (Or.inl rfl) (pe_orT (pv 4) (pe_one pe_int)))
        (pss_cons (ps_set (i := 6) nd rfl (Or.inl rfl) (pe_op op_sub (pe_op op_pow pe_int pe_int) pe_int))
        (pss_cons (ps_set (i := 7) nd rfl (Or.inl rfl) (pe_ix ix_list (pe_lst (pa_cons pe_int (pa_cons (pv 5) (pa_cons (pe_callB (call_min2 rfl) (by rfl) T.m_min (by decide +kernel) (pa_cons (pv 6) (pa_cons (pe_op op_add (pv 5) pe_int) pa_nil))) (pa_cons (pe_op op_sub (pv 5) pe_int) (pa_cons (pv 6) (pa_cons (pe_un un_neg pe_int) pa_nil))))))) (pe_call (ok_law_take T) (hr.mono (by decide)) (by rfl) T.m_law_take T.F_law_take.kp (bN_law_take T.F_law_take) .nil pass0 (pa_cons (pv 2) (pa_cons pe_int pa_nil))) (fun _ _ => rfl)))
        (pss_cons (ps_set (i := 8) nd rfl (Or.inl rfl) (pe_ix ix_list (pe_lst (pa_cons (pv 5) (pa_cons (pe_op op_sub (pv 5) pe_int) (pa_cons (pe_callB (call_min2 rfl) (by rfl) T.m_min (by decide +kernel) (pa_cons (pv 6) (pa_cons (pe_op op_add (pv 5) pe_int) pa_nil))) (pa_cons (pv 6) (pa_cons pe_int (pa_cons (pe_un un_neg pe_int) pa_nil))))))) (pe_call (ok_law_take T) (hr.mono (by decide)) (by rfl) T.m_law_take T.F_law_take.kp (bN_law_take T.F_law_take) .nil pass0 (pa_cons (pv 2) (pa_cons pe_int pa_nil))) (fun _ _ => rfl)))
        (pss_cons (ps_if (pt_not (pt_val (pe_call (ok_law_same T) (hr.mono (by decide)) (by rfl) T.m_law_same T.F_law_same.kp (bN_law_same T.F_law_same) .nil pass0 (pa_cons (pe_callZ0 (ok_parse_integer T) (hr.mono (by decide)) (by rfl) T.m_parse_integer T.F_parse_integer.kp (bK0_parse_integer T.F_parse_integer) pass0 (pk_cons (pv 3) pk_nil)) (pa_cons (pe_call (ok_law_between T) (hr.mono (by decide)) (by rfl) T.m_law_between T.F_law_between.kp (bN_law_between T.F_law_between) .nil pass0 (pa_cons (pv 4) (pa_cons pe_int (pa_cons pe_int pa_nil)))) pa_nil)))))
          (pss_one (ps_ret (pe_bl)))
          (pss_nil))
        (pss_cons (ps_if (pt_not (pt_val (pe_call (ok_law_same T) (hr.mono (by decide)) (by rfl) T.m_law_same T.F_law_same.kp (bN_law_same T.F_law_same) .nil pass0 (pa_cons (pe_callZ (ok_parse_integer T) (hr.mono (by decide)) (by rfl) T.m_parse_integer T.F_parse_integer.kp (bK1_parse_integer T.F_parse_integer) pass0 (pa_cons (pv 3) pa_nil) (pk_cons (pv 7) pk_nil)) (pa_cons (pe_call (ok_law_between T) (hr.mono (by decide)) (by rfl) T.m_law_between T.F_law_between.kp (bN_law_between T.F_law_between) .nil pass0 (pa_cons (pv 4) (pa_cons (pv 7) (pa_cons pe_int pa_nil)))) pa_nil)))))
          (pss_one (ps_ret (pe_bl)))
          (pss_nil))
        (pss_cons (ps_if (pt_not (pt_val (pe_call (ok_law_same T) (hr.mono (by decide)) (by rfl) T.m_law_same T.F_law_same.kp (bN_law_same T.F_law_same) .nil pass0 (pa_cons (pe_callZ (ok_parse_integer T) (hr.mono (by decide)) (by rfl) T.m_parse_integer T.F_parse_integer.kp (bK2_parse_integer T.F_parse_integer) pass0 (pa_cons (pv 3) pa_nil) (pk_cons (pv 8) pk_nil)) (pa_cons (pe_call (ok_law_between T) (hr.mono (by decide)) (by rfl) T.m_law_between T.F_law_between.kp (bN_law_between T.F_law_between) .nil pass0 (pa_cons (pv 4) (pa_cons pe_int (pa_cons (pv 8) pa_nil)))) pa_nil)))))
          (pss_one (ps_ret (pe_bl)))
          (pss_nil))
        (pss_cons (ps_if (pt_not (pt_val (pe_call (ok_law_same T) (hr.mono (by decide)) (by rfl) T.m_law_same T.F_law_same.kp (bN_law_same T.F_law_same) .nil pass0 (pa_cons (pe_callZ (ok_parse_integer T) (hr.mono (by decide)) (by rfl) T.m_parse_integer T.F_parse_integer.kp (bK3_parse_integer T.F_parse_integer) pass0 (pa_cons (pv 3) pa_nil) (pk_cons (pv 8) (pk_cons (pv 7) pk_nil))) (pa_cons (pe_call (ok_law_between T) (hr.mono (by decide)) (by rfl) T.m_law_between T.F_law_between.kp (bN_law_between T.F_law_between) .nil pass0 (pa_cons (pv 4) (pa_cons (pv 7) (pa_cons (pv 8) pa_nil)))) pa_nil)))))
          (pss_one (ps_ret (pe_bl)))
          (pss_nil))
        (pss_cons (ps_set (i := 9) nd rfl (Or.inl rfl) (pe_ix ix_list (pe_lst (pa_cons pe_non (pa_cons pe_int (pa_cons pe_bl (pa_cons (pe_lst (pa_cons (pv 3) pa_nil)) (pa_cons (pe_tup (pa_cons (pv 3) pa_nil)) (pa_cons pe_dnewK (pa_cons pe_str (pa_cons (pe_un un_neg pe_int) pa_nil))))))))) (pe_call (ok_law_take T) (hr.mono (by decide)) (by rfl) T.m_law_take T.F_law_take.kp (bN_law_take T.F_law_take) .nil pass0 (pa_cons (pv 2) (pa_cons pe_int pa_nil))) (fun _ _ => rfl)))
        (pss_one (ps_if (PW.pt (pw_or (pt_cmpR op_notN (pe_callZ1 (ok_parse_integer T) (hr.mono (by decide)) (by rfl) T.m_parse_integer T.F_parse_integer.kp (bK5_parse_integer T.F_parse_integer) pass0 (pa_cons (pv 9) pa_nil)) pe_non (nomark _)) (pw_or1 (pt_cmpR op_notN (pe_callZ (ok_parse_integer T) (hr.mono (by decide)) (by rfl) T.m_parse_integer T.F_parse_integer.kp (bK4_parse_integer T.F_parse_integer) pass0 (pa_cons (pv 9) pa_nil) (pk_cons (pe_un un_neg pe_int) (pk_cons (pv 6) pk_nil))) pe_non (nomark _)))))
          (pss_one (ps_ret (pe_bl)))
          (pss_nil))))))))))))))))
      (pss_one (ps_ret (pe_and (pe_call (ok_law_same T) (hr.mono (by decide)) (by rfl) T.m_law_same T.F_law_same.kp (bN_law_same T.F_law_same) .nil pass0 (pa_cons (pe_callZ1 (ok_parse_integer T) (hr.mono (by decide)) (by rfl) T.m_parse_integer T.F_parse_integer.kp (bK5_parse_integer T.F_parse_integer) pass0 (pa_cons pe_str pa_nil)) (pa_cons pe_int pa_nil))) (pe_one (pe_cmpR op_isN (pe_callZ1 (ok_parse_integer T) (hr.mono (by decide)) (by rfl) T.m_parse_integer T.F_parse_integer.kp (bK5_parse_integer T.F_parse_integer) pass0 (pa_cons pe_str pa_nil)) pe_non (nomark _))))))), ?_⟩
    walk_at "ss"
    refine ⟨a, _, rfl, .inl hS, ?_⟩
    walk_at "ss"
    rw [len_ints]
    refine ⟨by split <;> split <;> omega, by split <;> split <;> omega, ?_⟩
    generalize hN : (if (if (ns.length : Int) < 10 then (ns.length : Int) else 10) > 2 then if (ns.length : Int) < 10 then (ns.length : Int) else 10 else 2).toNat = N
    have hN10 : N ≤ 10 := by
      rw [← hN]
      split <;> split <;> omega
    refine for_rng (fun i σ' H' => Hold <| ∃ y1 y2 y3 y4 y5 y6 y7 y8 y9, σ' = [some (.ref a), y1, y2, y3, y4, y5, y6, y7, y8, y9] ∧ SqL K H' a (ns.map V.int)) ?_ ?_ ?_
    · exact ⟨_, _, _, _, _, _, _, _, _, rfl, hS⟩
    · rintro i σ' H0 hi ⟨y1, y2, y3, y4, y5, y6, y7, y8, y9, rfl, hS0⟩
      walk_at "ss"
      refine cell_go hS0 (by omega) fun r0 => ?_
      walk_at "ss"
      refine bag_go fun b ob hb hB => ?_
      have k0 : Keep [b] H0 (upd H0 b ob) := Keep.new hb
      generalize upd H0 b ob = H1 at hB k0 ⊢
      walk_at "ss"
      refine ⟨b, _, rfl, hB, by omega, fun z H2 hz k1 hB2 => ?_⟩
      have k2 := k0.trans k1
      walk_at "ss"
      refine ⟨z, rfl, by omega, ?_⟩
      generalize hnum : parseL (tl z) = num
      walk_at "ss"
      refine ⟨fun σ' H' => Hold <| ∃ mid : Int, σ' = [some (.ref a), some (.int (0 + (i : Nat))), some (.ref b), some (.str z), some (oV num), some (.int mid), y6, y7, y8, y9] ∧ H' = H2, ?_, ?_⟩
      · walk_at "ss"
        cases num with
        | none => exact ⟨false, rfl, iteF ⟨0, rfl, rfl⟩⟩
        | some n => exact ⟨n != 0, rfl, w_itb (fun _ => ⟨n, rfl, rfl⟩) (fun e => ⟨0, rfl, rfl⟩)⟩
      rintro σ' H' ⟨mid, rfl, rfl⟩
      walk_at "ss"
      intro p1 hp1
      walk_at "ss"
      refine take_go (by decide) (by decide) (hB2.new hp1) (by omega) fun r1 H3 r10 r11 k3 hB3 => ?_
      refine ixL_all (P := fun v => ∃ n, v = .int n) (k3.get upd_same (by simpa using hB2.ne hp1)) r10 r11 (by
        simp only [List.forall_mem_cons]
        exact ⟨⟨_, rfl⟩, ⟨_, rfl⟩, ⟨_, rfl⟩, ⟨_, rfl⟩, ⟨_, rfl⟩, ⟨_, rfl⟩, fun _ h => by cases h⟩) ?_
      rintro v ⟨lo, rfl⟩
      have k4 := (k2.trans (Keep.new hp1)).trans k3
      walk_at "ss"
      intro p2 hp2
      walk_at "ss"
      refine take_go (by decide) (by decide) (hB3.new hp2) (by omega) fun r2 H4 r20 r21 k5 hB4 => ?_
      refine ixL_all (P := fun v => ∃ n, v = .int n) (k5.get upd_same (by simpa using hB3.ne hp2)) r20 r21 (by
        simp only [List.forall_mem_cons]
        exact ⟨⟨_, rfl⟩, ⟨_, rfl⟩, ⟨_, rfl⟩, ⟨_, rfl⟩, ⟨_, rfl⟩, ⟨_, rfl⟩, fun _ h => by cases h⟩) ?_
      rintro v ⟨hi', rfl⟩
      have k6 := (k4.trans (Keep.new hp2)).trans k5
      walk_at "ss"
      refine parse_go (by omega) fun H5 j1 => ?_
      rw [hnum]
      walk_at "ss"
      refine betw_go ?_
      walk_at "ss"
      refine same_go ?_
      walk_at "ss"
      refine parse_go (by omega) fun H6 j2 => ?_
      rw [hnum]
      walk_at "ss"
      refine betw_go ?_
      walk_at "ss"
      refine same_go ?_
      walk_at "ss"
      refine parse_go (by omega) fun H7 j3 => ?_
      rw [hnum]
      walk_at "ss"
      refine betw_go ?_
      walk_at "ss"
      refine same_go ?_
      walk_at "ss"
      refine parse_go (by omega) fun H8 j4 => ?_
      rw [hnum]
      walk_at "ss"
      refine betw_go ?_
      walk_at "ss"
      refine same_go ?_
      have j5 := ((j1.trans j2).trans j3).trans j4
      have k7 := k6.trans j5.up
      have hB5 := hB4.keep0 j5
      walk_at "ss"
      intro p3 hp3
      walk_at "ss"
      intro p4 hp4
      walk_at "ss"
      intro p5 hp5
      walk_at "ss"
      intro p6 hp6
      walk_at "ss"
      refine take_go (by decide) (by decide) ((((hB5.new hp3).new hp4).new hp5).new hp6) (by omega) fun r7 H12 r70 r71 k12 hB12 => ?_
      have e3 := k12.get (stay (stay (stay upd_same hp4) hp5) hp6) (by simpa using hB5.ne hp3)
      have e4 := k12.get (stay (stay upd_same hp5) hp6) (by simpa using (hB5.new hp3).ne hp4)
      have e5 := k12.get (stay upd_same hp6) (by simpa using ((hB5.new hp3).new hp4).ne hp5)
      have e6 := k12.get upd_same (by simpa using (((hB5.new hp3).new hp4).new hp5).ne hp6)
      have k13 : Keep [b] H0 H12 := ((((k7.trans (Keep.new hp3)).trans (Keep.new hp4)).trans (Keep.new hp5)).trans (Keep.new hp6)).trans k12
      refine ixL_all (P := fun v => NotStr K H12 v ∨ v = .str "") e6 r70 r71 (by
        simp only [List.forall_mem_cons]
        exact ⟨.inl notStr_non, .inl notStr_int, .inl notStr_bl, .inl (notStr_lst e3), .inl (notStr_tup e4), .inl (notStr_dK e5), .inr trivial, .inl notStr_int, fun _ h => by cases h⟩) fun v hnv => ?_
      walk_at "ss"
      refine parseN_go hnv fun H13 j6 => ?_
      walk_at "ss"
      refine w_iteN (fun e => absurd rfl e) (fun _ => ?_)
      walk_at "ss"
      refine parseN_go (hnv.imp (fun h => h.keep j6) id) fun H14 j7 => ?_
      walk_at "ss"
      refine w_iteN (fun e => absurd rfl e) (fun _ => ?_)
      walk_at "ss"
      exact ⟨_, _, _, _, _, _, _, _, _, rfl, (((k13.fresh (by simpa using hb)).trans j6).trans j7).sqL hS0⟩
    · rintro σ' H0 ⟨y1, y2, y3, y4, y5, y6, y7, y8, y9, rfl, hS0⟩
      walk_at "ss"
      refine parse_go (z := "0") (by decide) fun H1 k1 => ?_
      have e1 : betw (parseL (tl "0")) 0 999999 = some 0 := by decide
      rw [e1]
      walk_at "ss"
      refine same_go (a := some 0) ?_
      walk_at "ss"
      refine parse_go (z := "00") (by decide) fun H2 k2 => ?_
      have e2 : betw (parseL (tl "00")) 0 999999 = none := by decide
      rw [e2]
      walk_at "ss"
      exact q _
end
def d_parse_integer : He.DefD := ⟨("parse_integer", none), "parse_integer", "parse_integer", defArgs s_parse_integer, defBody s_parse_integer, defScope s_parse_integer, [], [("low", .int (0)), ("high", .int (999999))]⟩
def d_law_cell : He.DefD := ⟨("_law_cell", none), "_law_cell", "_law_cell", defArgs s_law_cell, defBody s_law_cell, defScope s_law_cell, [], []⟩
def d_law_bag : He.DefD := ⟨("_law_bag", none), "_law_bag", "_law_bag", defArgs s_law_bag, defBody s_law_bag, defScope s_law_bag, [], []⟩
def d_law_take : He.DefD := ⟨("_law_take", none), "_law_take", "_law_take", defArgs s_law_take, defBody s_law_take, defScope s_law_take, [], []⟩
def d_law_digits : He.DefD := ⟨("_law_digits", none), "_law_digits", "_law_digits", defArgs s_law_digits, defBody s_law_digits, defScope s_law_digits, [], []⟩
def d_law_value : He.DefD := ⟨("_law_value", none), "_law_value", "_law_value", defArgs s_law_value, defBody s_law_value, defScope s_law_value, [], []⟩
def d_law_between : He.DefD := ⟨("_law_between", none), "_law_between", "_law_between", defArgs s_law_between, defBody s_law_between, defScope s_law_between, [], []⟩
def d_law_same : He.DefD := ⟨("_law_same", none), "_law_same", "_law_same", defArgs s_law_same, defBody s_law_same, defScope s_law_same, [], []⟩
def d_law : He.DefD := ⟨("law", none), "law", "law", defArgs s_law, defBody s_law, defScope s_law, [], []⟩
def fn : List He.DefD := [d_parse_integer, d_law_cell, d_law_bag, d_law_take, d_law_digits, d_law_value, d_law_between, d_law_same, d_law]
def fa : List He.Fa := [.free "all", .free "bool", .free "int", .free "isinstance", .free "len", .free "max", .free "min", .free "range", .free "str", .glo "parse_integer", .glo "_law_cell", .glo "_law_bag", .glo "_law_take", .glo "_law_digits", .glo "_law_value", .glo "_law_between", .glo "_law_same", .glo "law", .int "MOST_DIGITS" (30), .str "DIGITS" "0123456789"]
abbrev R : PySem.W.OpenRow := PySem.W.OpenLaw.row PySem.Challenge.rw_filerights_k05_integers_of_texts
abbrev hk : PySem.W.Hook := He.hookD 4 fa fn
def ob (s : PySem.W.SharedT) : He.AlD := He.obsDG 4 fa fn (HandSHeadRun.getT s)
theorem ob_eq (s : PySem.W.SharedT) : ob s = hk.obs s.abs := He.obsDG_eq (HandSHeadRun.getT_eq s)
abbrev loose : List Str := ["MOST_DIGITS", "DIGITS", "parse_integer", "_law_cell", "_law_bag", "_law_take", "_law_digits", "_law_value", "_law_between", "_law_same"]
theorem run (w : World) : HandSHeadRun.RunEq R (PySem.W.view R.prog [12]) hk ob 2000 loose w := by
  intro os
  kernel_rfl
theorem txt_of {K : PySem.W.Frag} {h : Heap} {mg : Str → Option Value} (X : K.In h) (G : h.Ns mainGlobals mg) (c : He.SaysD fa fn K) : Txt K mg :=
  ⟨He.free_ok X G (c.fact 0 (f := .free "all") rfl),
  He.free_ok X G (c.fact 1 (f := .free "bool") rfl),
  He.free_ok X G (c.fact 2 (f := .free "int") rfl),
  He.free_ok X G (c.fact 3 (f := .free "isinstance") rfl),
  He.free_ok X G (c.fact 4 (f := .free "len") rfl),
  He.free_ok X G (c.fact 5 (f := .free "max") rfl),
  He.free_ok X G (c.fact 6 (f := .free "min") rfl),
  He.free_ok X G (c.fact 7 (f := .free "range") rfl),
  He.free_ok X G (c.fact 8 (f := .free "str") rfl),
  He.glo_ok X G (c.fact 9 (f := .glo "parse_integer") rfl),
  He.glo_ok X G (c.fact 10 (f := .glo "_law_cell") rfl),
  He.glo_ok X G (c.fact 11 (f := .glo "_law_bag") rfl),
  He.glo_ok X G (c.fact 12 (f := .glo "_law_take") rfl),
  He.glo_ok X G (c.fact 13 (f := .glo "_law_digits") rfl),
  He.glo_ok X G (c.fact 14 (f := .glo "_law_value") rfl),
  He.glo_ok X G (c.fact 15 (f := .glo "_law_between") rfl),
  He.glo_ok X G (c.fact 16 (f := .glo "_law_same") rfl),
  He.glo_ok X G (c.fact 17 (f := .glo "law") rfl),
  (let ⟨_, F⟩ := c.def_ 0 (d := d_parse_integer) rfl; F.toFd),
  (let ⟨_, F⟩ := c.def_ 1 (d := d_law_cell) rfl; F.toFd),
  (let ⟨_, F⟩ := c.def_ 2 (d := d_law_bag) rfl; F.toFd),
  (let ⟨_, F⟩ := c.def_ 3 (d := d_law_take) rfl; F.toFd),
  (let ⟨_, F⟩ := c.def_ 4 (d := d_law_digits) rfl; F.toFd),
  (let ⟨_, F⟩ := c.def_ 5 (d := d_law_value) rfl; F.toFd),
  (let ⟨_, F⟩ := c.def_ 6 (d := d_law_between) rfl; F.toFd),
  (let ⟨_, F⟩ := c.def_ 7 (d := d_law_same) rfl; F.toFd),
  (let ⟨_, F⟩ := c.def_ 8 (d := d_law) rfl; F.toFd),
  He.int_ok X G (c.fact 18 (f := .int "MOST_DIGITS" (30)) rfl),
  He.str_ok X G (c.fact 19 (f := .str "DIGITS" "0123456789") rfl)⟩
theorem facts {P : Program} {w : World} {K : PySem.W.Frag} {h : Heap} {mg : Str → Option Value} {f : Addr} (X : K.In h) (G : h.Ns mainGlobals mg) (hfa : mg ("law" : Str) = some (.ref f)) (c : He.SaysD fa fn K) :
    ∃ fd : FuncData, (∀ (s : Shared) (v : Value), BindsTo s fd ⟨[v], []⟩ [("_law_script", v)]) ∧ ∀ base : Heap, K.In base → base.Ns mainGlobals mg → FnOk P w K mg base CX0 5 f fd ["_law_script"] (spLaw K) := by
  have T := txt_of X G c
  have e := hfa.symm.trans T.m_law
  cases e
  have b := FunD.bindsA (ps := ["_law_script"]) T.F_law fun _ _ _ _ _ _ us hl => match us, hl with | [_], _ => rfl
  exact ⟨fdOf K (He.ga K "law"), fun s v => b s [v] rfl, fun base _ _ => ok_law T⟩
end K05
open PySem PySem.W PySem.Calls PyProof.Rows
set_option maxHeartbeats 0 in
theorem PySem.Challenge.cw_filerights_k05_integers_of_texts_holds : PySem.Challenge.rw_filerights_k05_integers_of_texts.Holds := by
  w_on; o_law
  refine HandSHeadRun.head_any (r := OpenLaw.row PySem.Challenge.rw_filerights_k05_integers_of_texts) (q := view (OpenLaw.row PySem.Challenge.rw_filerights_k05_integers_of_texts).prog [12]) (H := K05.hk) (ob := K05.ob) (M := 2000) (loose := K05.loose) (d := HandSHeadRun.topDef (OpenLaw.row PySem.Challenge.rw_filerights_k05_integers_of_texts).prog 12) (kwd := []) K05.ob_eq
    (by kernel_rfl) (fun s => by kernel_rfl) K05.run (by kernel_rfl) (by kernel_rfl) (by kernel_rfl) (by rfl) (by first | assumption | decide +kernel) (by decide +kernel) ⟨rfl, rfl, rfl, rfl, rfl, by decide +kernel⟩ ?hw ?hc
  case hw => w_witness2
  case hc =>
    refine L2.walk_ofE (l := PySem.Challenge.rw_filerights_k05_integers_of_texts) (n := 63) (k := 5) (x := "_law_script") (CX := L2.CX0) rfl (by decide) (by kernel_rfl) ⟨rfl, by decide, by decide⟩ ?F (fun _ _ _ _ z => z)
    intro w mg fa h Y G hmg0
    obtain ⟨K, KX, c⟩ := Y
    have hmg : mg ("law" : PySem.Str) = some (.ref fa) := by
      have e : (HandSHeadRun.topDef (OpenLaw.row PySem.Challenge.rw_filerights_k05_integers_of_texts).prog 12).name = ("law" : PySem.Str) := by kernel_rfl
      rw [← e]
      exact hmg0
    obtain ⟨fd, hb, hF⟩ := K05.facts (P := (PySem.Challenge.rw_filerights_k05_integers_of_texts).prog) (w := w) KX G hmg c
    exact ⟨K, fd, K05.spLaw K, KX, hb, fun H a ns hl _ hS => ⟨a, ns, rfl, hS, hl, fun _ => rfl⟩, hF⟩
