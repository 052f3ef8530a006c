import PyProof.Rows.All
import Wide.All
import OpenK.AllK
import Wide.FinOn
import KE.KStateDown
import Lean
import HandS.ForMost
import HandS.Flow
import HandS.IsInst
import HandS.Defaults
import HandS.Head0
import HandS.Head1
import HandS.Head2
import HandS.HeadEnd
import HandS.HeadHook1
import HandS.HeadHook2
import HandS.Evl
import HandS.Walk
import HandS.Replace
import KE.IntTextLaws
import PySem.Challenge.RW_filerights_k01_integers_names_paths
set_option Elab.async false
set_option linter.all false
set_option maxRecDepth 100000
set_option maxHeartbeats 4000000
namespace Fr
open PySem PySem.Spec PyProof.Rows L2
abbrev tCut := Evl.tCut
/-- a word of one's own: the steps don't open it -/
def Hold (p : Prop) : Prop := p
def mkS (l : List Nat) : Str := ⟨l.toArray⟩
theorem pss_cut {X : Cx} {st : Stmt} {rest : List Stmt} {t u : TS} (h1 : PS X st t) (h2 : PSs X rest u) : PSs X (st :: rest) (tCut t u) := Evl.pss_cut h1 h2

/-! ### heaps: all but the addresses of S stays, nothing goes -/
def Keep (S : List Addr) (H H' : Hp) : Prop := ∀ a o, H a = some o → (∃ o', H' a = some o') ∧ (a ∉ S → H' a = some o)
theorem Keep.refl {S : List Addr} (H : Hp) : Keep S H H := fun _ o h => ⟨⟨o, h⟩, fun _ => h⟩
theorem Keep.trans {S : List Addr} {H H1 H2 : Hp} (x : Keep S H H1) (y : Keep S H1 H2) : Keep S H H2 := fun a o h => by
  obtain ⟨⟨o1, h1⟩, k1⟩ := x a o h
  exact ⟨(y a o1 h1).1, fun n => (y a o (k1 n)).2 n⟩
theorem Keep.mono {S S' : List Addr} {H H1 : Hp} (x : Keep S H H1) (h : ∀ a, a ∈ S → a ∈ S') : Keep S' H H1 := fun a o e => ⟨(x a o e).1, fun n => (x a o e).2 fun z => n (h a z)⟩
theorem Keep.free {S : List Addr} {H H1 : Hp} (x : Keep S H H1) {p : Addr} (h : H1 p = none) : H p = none := by
  cases e : H p with
  | none => rfl
  | some o =>
    obtain ⟨⟨o1, h1⟩, _⟩ := x p o e
    rw [h1] at h
    cases h
theorem Keep.get {S : List Addr} {H H1 : Hp} (x : Keep S H H1) {p : Addr} {o : HO} (h : H p = some o) (n : p ∉ S) : H1 p = some o := (x p o h).2 n
theorem Keep.new {S : List Addr} {H : Hp} {p : Addr} {o : HO} (h : H p = none) : Keep S H (upd H p o) := fun a u e => by
  have n : a ≠ p := ne_of_none e h
  rw [upd_ne n]
  exact ⟨⟨u, e⟩, fun _ => e⟩
theorem Keep.set {S : List Addr} {H : Hp} {p : Addr} {o : HO} (h : p ∈ S) : Keep S H (upd H p o) := fun a u e => by
  by_cases n : a = p
  · subst n
    rw [upd_same]
    exact ⟨⟨o, rfl⟩, fun z => absurd h z⟩
  · rw [upd_ne n]
    exact ⟨⟨u, e⟩, fun _ => e⟩

/-! ### a law's bag of draws: its third number is at most n -/
def Bag (H : Hp) (b : Addr) (n : Nat) : Prop := ∃ x y z : Int, H b = some (.lst [.int x, .int y, .int z]) ∧ 0 ≤ x ∧ 0 ≤ y ∧ y < 2147483648 ∧ 0 ≤ z ∧ z ≤ n
theorem Bag.mono {H : Hp} {b : Addr} {n m : Nat} (h : Bag H b n) (l : n ≤ m) : Bag H b m := by
  obtain ⟨x, y, z, e, h1, h2, h3, h4, h5⟩ := h
  exact ⟨x, y, z, e, h1, h2, h3, h4, by omega⟩
def spTake : Sp := fun vs H Q _ => ∃ (b : Addr) (m : Int) (n : Nat), vs = [.ref b, .int m] ∧ 0 < m ∧ m < 1073741824 ∧ Bag H b n ∧ n < 1073741824 ∧
  ∀ r H', 0 ≤ r → r < m → Keep [b] H H' → Bag H' b (n + 1) → Q (.int r) H'

/-! ### readings, one step at a time -/
section
variable {K : PySem.W.Frag} {σ : L2.St} {H : Hp} {Q : VK} {D : Ends} {v x y : V} {ta tb tc : TE} {t u z : TS} {tt tu : TT} {tr : TA} {i : Nat} {p : Addr} {xs ys : List V} {a b : Int} {k : Bool} {QA : List V → Hp → Prop} {QT : Bool → Hp → Prop}
theorem w_seq (h : t { D with nx := u D } σ H) : tSeq t u D σ H := h
theorem w_next (h : D.nx σ H) : tNext D σ H := h
theorem w_brk (h : D.bk σ H) : tBreak D σ H := h
theorem w_ret (h : ta σ H D.rt) : tRet ta D σ H := h
theorem w_retN (h : D.rt .non H) : tRetN D σ H := h
theorem w_drop (h : ta σ H fun _ H1 => D.nx σ H1) : tDrop ta D σ H := h
theorem w_ifS (h : tt σ H fun b H1 => if b = true then t D σ H1 else u D σ H1) : tIfS tt t u D σ H := h
theorem w_asg {g : TG} (h : ta σ H fun x H1 => g x σ H1 D.nx) : tAsg ta g D σ H := h
theorem w_gname {q : L2.St → Hp → Prop} (h : q (σ.set i (some v)) H) : gName i v σ H q := h
theorem w_gsub {q : L2.St → Hp → Prop} {ts : TSet} (h : ta σ H fun o H1 => tb σ H1 fun i H2 => ts o i v H2 fun H3 => q σ H3) : gSub ta tb ts v σ H q := h
theorem w_setL {q : Hp → Prop} {j : Nat} (h : H p = some (.lst xs)) (hj : ixN xs.length a = some j) (k : q (upd H p (.lst (xs.set j v)))) : rSetL (.ref p) (.int a) v H q := ⟨p, xs, a, j, rfl, rfl, h, hj, k⟩
theorem w_gtup {n : Nat} {gs : TGs} {q : L2.St → Hp → Prop} (h : SqT K H p xs) (hl : xs.length = n) (k : gs xs σ H q) : gTup K n gs (.ref p) σ H q := ⟨p, xs, rfl, h, hl, k⟩
theorem w_gcons {g : TG} {gs : TGs} {q : L2.St → Hp → Prop} (h : g v σ H fun σ' H' => gs xs σ' H' q) : gCons g gs (v :: xs) σ H q := ⟨v, xs, rfl, h⟩
theorem w_gnil {q : L2.St → Hp → Prop} (h : q σ H) : gNil [] σ H q := ⟨rfl, h⟩
theorem w_par {j : Nat} (h : tr σ H fun vs H1 => ∃ v w, vs = [v, w] ∧ D.nx ((σ.set i (some v)).set j (some w)) H1) : tPar i j tr D σ H := h
theorem w_aug {ti : TIp} (hv : σ[i]? = some (some x)) (h : ta σ H fun y H1 => ti x y H1 fun z H2 => D.nx (σ.set i (some z)) H2) : tAug i ta ti D σ H := ⟨x, hv, h⟩
theorem w_ipI {f : Int → Int → Int} (h : Q (.int (f a b)) H) : ipI f (.int a) (.int b) H Q := ⟨a, b, rfl, rfl, h⟩
theorem w_var (hv : σ[i]? = some (some v)) (h : Q v H) : tVar i σ H Q := ⟨v, hv, h⟩
theorem w_c (h : Q v H) : tC v σ H Q := h
theorem w_op {r : R2} (h : ta σ H fun x H1 => tb σ H1 fun y H2 => r x y H2 Q) : tOp r ta tb σ H Q := h
theorem w_un {r : V → Hp → VK → Prop} (h : ta σ H fun x H1 => r x H1 Q) : tUn r ta σ H Q := h
theorem w_I0 {g : Int → Int → V} (h : Q (g a b) H) : rI0 g (.int a) (.int b) H Q := ⟨a, b, rfl, rfl, h⟩
theorem w_I {C : Int → Int → Prop} {g : Int → Int → V} (hc : C a b) (h : Q (g a b) H) : rI C g (.int a) (.int b) H Q := ⟨a, b, rfl, rfl, hc, h⟩
theorem w_U {g : Int → V} (h : Q (g a) H) : rU g (.int a) H Q := ⟨a, rfl, h⟩
theorem w_eq (hs : scal x y = true) (h : Q (.bl (decide (x = y))) H) : rEq x y H Q := ⟨hs, h⟩
theorem w_ne (hs : scal x y = true) (h : Q (.bl (!decide (x = y))) H) : rNe x y H Q := ⟨hs, h⟩
theorem w_ixL (h : H p = some (.lst xs)) (ha : atI xs a = some v) (q : Q v H) : rIxL K (.ref p) (.int a) H Q := ⟨p, xs, a, v, rfl, rfl, SqL.of h, ha, q⟩
theorem w_ixLS (h : SqL K H p xs) (ha : atI xs a = some v) (q : Q v H) : rIxL K (.ref p) (.int a) H Q := ⟨p, xs, a, v, rfl, rfl, h, ha, q⟩
theorem w_ixT (h : SqT K H p xs) (ha : atI xs a = some v) (q : Q v H) : rIxT K (.ref p) (.int a) H Q := ⟨p, xs, a, v, rfl, rfl, h, ha, q⟩
theorem w_ixS {z : Str} {c : Nat} (h : z.length ≤ sizeLine) (ha : atI z.cps.toList a = some c) (q : Q (.str (mkS [c])) H) : rIxS (.str z) (.int a) H Q := ⟨z, a, c, rfl, rfl, h, ha, q⟩
theorem w_nil (h : QA [] H) : tNil σ H QA := h
theorem w_cons (h : ta σ H fun x H1 => tr σ H1 fun xs H2 => QA (x :: xs) H2) : tCons ta tr σ H QA := h
theorem w_cb {r : List V → Hp → VK → Prop} (h : tr σ H fun vs H1 => r vs H1 Q) : tCB r tr σ H Q := h
theorem w_call {sp : Sp} {dvs : List V} {E : XK} (h : tr σ H fun vs H1 => sp (vs ++ dvs) H1 Q E) : tCall sp dvs E tr σ H Q := h
theorem w_if (h : tt σ H fun c H1 => if c = true then ta σ H1 Q else tb σ H1 Q) : tIf tt ta tb σ H Q := h
theorem w_lst (h : tr σ H fun xs H1 => xs.length ≤ sizeLine ∧ ∀ p, H1 p = none → Q (.ref p) (upd H1 p (.lst xs))) : tLst tr σ H Q := h
theorem w_tup (h : tr σ H fun xs H1 => xs.length ≤ sizeLine ∧ ∀ p, H1 p = none → Q (.ref p) (upd H1 p (.tup xs))) : tTup tr σ H Q := h
theorem w_test (h : ta σ H fun x H' => ∃ k, x = .bl k ∧ QT k H') : tTest ta σ H QT := h
theorem w_B (h : ta σ H fun x H' => ∃ k, x = .bl k ∧ QT k H') : tB ta σ H QT := h
theorem w_and (h : tt σ H fun c H1 => if c = true then tu σ H1 QT else QT false H1) : tAnd tt tu σ H QT := h
theorem w_or (h : tt σ H fun c H1 => if c = true then QT true H1 else tu σ H1 QT) : tOr tt tu σ H QT := h
theorem w_not (h : tt σ H fun c H1 => QT (!c) H1) : tNot tt σ H QT := h
theorem w_yes (h : QT true H) : tYes σ H QT := h
theorem w_andV (h : ta σ H fun x H1 => ∃ c, x = .bl c ∧ if c = true then tb σ H1 Q else Q (.bl false) H1) : tAndV ta tb σ H Q := h
theorem w_orV (h : ta σ H fun x H1 => ∃ c, x = .bl c ∧ if c = true then Q (.bl true) H1 else tb σ H1 Q) : tOrV ta tb σ H Q := h
theorem w_notV (h : ta σ H fun x H1 => ∃ c, x = .bl c ∧ Q (.bl (!c)) H1) : tNotV ta σ H Q := h
theorem w_orT (h : ta σ H fun x H1 => ∃ k, TruV K x H1 k ∧ if k = true then Q x H1 else tb σ H1 Q) : tOrT K ta tb σ H Q := h
theorem w_chain {r r' : R2} (h : ta σ H fun x H1 => tb σ H1 fun y H2 => r x y H2 fun z H3 => ∃ k, z = .bl k ∧ (if k = true then tc σ H3 fun w' H4 => r' y w' H4 Q else Q (.bl false) H3)) : tChain r r' ta tb tc σ H Q := h
theorem w_m1 {r : V → List V → Hp → VK → Prop} (h : ta σ H fun x H1 => (∃ a, x = .str a) ∧ tb σ H1 fun y H2 => r x [y] H2 Q) : tM1 r ta tb σ H Q := h
theorem w_isS {z : Str} {P : Prop} (h : P) : (∃ a, V.str z = .str a) ∧ P := ⟨⟨z, rfl⟩, h⟩
theorem w_bm {T : String} {r : V → List V → Hp → VK → Prop} (h : ta σ H fun x H1 => tyV K T x H1 ∧ tr σ H1 fun xs H2 => r x xs H2 Q) : tBM K T r ta tr σ H Q := h
theorem w_bm0 {T : String} {r : V → List V → Hp → VK → Prop} (h : ta σ H fun x H1 => tyV K T x H1 ∧ r x [] H1 Q) : tBM0 K T r ta σ H Q := h
theorem w_tyL {P : Prop} (h : H p = some (.lst xs)) (q : P) : tyV K "list" (.ref p) H ∧ P := ⟨.inl ⟨rfl, xs, SqL.of h⟩, q⟩
theorem w_sl {r : V → Option Int → Option Int → Hp → VK → Prop} {tl th : TO} (h : ta σ H fun x H1 => tl σ H1 fun l H2 => th σ H2 fun u H3 => r x l u H3 Q) : tSl r ta tl th σ H Q := h
theorem w_noPart {q : Option Int → Hp → Prop} (h : q none H) : tNoPart σ H q := h
theorem w_part {q : Option Int → Hp → Prop} (h : ta σ H fun x H1 => ∃ i, x = .int i ∧ q (some i) H1) : tPart ta σ H q := h
theorem w_slS {z : Str} {lo hi : Option Int} (h : z.length ≤ sizeLine) (q : Q (.str (cutS z lo hi)) H) : rSlS (.str z) lo hi H Q := ⟨z, rfl, h, q⟩
/-- a test's two ways -/
theorem w_ite {c A B : Prop} [Decidable c] (h1 : c → A) (h2 : ¬ c → B) : if decide c = true then A else B := by
  by_cases h : c
  · rw [if_pos (decide_eq_true h)]
    exact h1 h
  · rw [if_neg (fun z => h (of_decide_eq_true z))]
    exact h2 h
theorem w_iteN {c A B : Prop} [Decidable c] (h1 : ¬ c → A) (h2 : c → B) : if (!decide c) = true then A else B := by
  by_cases h : c
  · rw [decide_eq_true h]
    exact iteF (h2 h)
  · rw [decide_eq_false h]
    exact iteT (h1 h)
theorem w_iteI {a b : Int} {A B : Prop} (h1 : a = b → A) (h2 : a ≠ b → B) : if decide (V.int a = V.int b) = true then A else B := w_ite (fun e => h1 (V.int.inj e)) (fun e => h2 fun z => e (congrArg V.int z))
theorem w_iteS {a b : Str} {A B : Prop} (h1 : a = b → A) (h2 : a ≠ b → B) : if decide (V.str a = V.str b) = true then A else B := w_ite (fun e => h1 (V.str.inj e)) (fun e => h2 fun z => e (congrArg V.str z))
theorem w_iteNI {a b : Int} {A B : Prop} (h1 : a ≠ b → A) (h2 : a = b → B) : if (!decide (V.int a = V.int b)) = true then A else B := w_iteN (fun e => h1 fun z => e (congrArg V.int z)) (fun e => h2 (V.int.inj e))
theorem w_iteNS {a b : Str} {A B : Prop} (h1 : a ≠ b → A) (h2 : a = b → B) : if (!decide (V.str a = V.str b)) = true then A else B := w_iteN (fun e => h1 fun z => e (congrArg V.str z)) (fun e => h2 (V.str.inj e))
theorem w_itb {k : Bool} {A B : Prop} (h1 : k = true → A) (h2 : k = false → B) : if k = true then A else B := by
  cases k with
  | true => exact iteT (h1 rfl)
  | false => exact iteF (h2 rfl)
end

/-! ### a def by its name; calls with keywords -/
def fd0 : FuncData := PySem.W.fnOf "" "" { posonlyargs := [], args := [], vararg := none, kwonlyargs := [], kw_defaults := [], kwarg := none, defaults := [] } [] { kind := .function, names := [], isGenerator := false, isCoroutine := false } .none .none .none .none none .none .none
def fdOf (K : PySem.W.Frag) (f : Addr) : FuncData := match K.lookup f with
  | some ⟨_, _, .func fd, _⟩ => fd
  | _ => fd0
theorem _root_.L2.FunD.toFd {K : PySem.W.Frag} {x qual : Str} {params : Arguments} {body : List Stmt} {scope : Scope} {dvs : List V} {kws : List (Str × V)} {f : Addr} {fd : FuncData} (F : FunD K x qual params body scope dvs kws f fd) : FunD K x qual params body scope dvs kws f (fdOf K f) := by
  obtain ⟨oc, od, dV, kV, doc, pm, an, cdv, ct, osl, e, lk, _⟩ := F.ex
  have h : fdOf K f = fd := by
    unfold fdOf
    rw [lk]
  rw [h]
  exact F
def pick {α : Type} (idx : List Nat) (xs : List α) : List α := idx.filterMap fun i => xs[i]?
theorem vals_pick {xs : List V} {us : List Value} (r : Vals xs us) : ∀ idx : List Nat, Vals (pick idx xs) (pick idx us)
  | [] => .nil
  | i :: idx => by
    have ih := vals_pick r idx
    unfold pick at ih ⊢
    cases e : xs[i]? with
    | none =>
      have e2 := Vals.none_of r e
      rw [List.filterMap_cons_none e, List.filterMap_cons_none e2]
      exact ih
    | some v =>
      obtain ⟨u, e2, rv⟩ := Vals.get r e
      rw [List.filterMap_cons_some e, List.filterMap_cons_some e2]
      exact .cons rv ih
def KbD (K : PySem.W.Frag) (fd : FuncData) (ps : List Str) (n : Nat) (ks : List Str) (ds : List V) (idx : List Nat) : Prop :=
  ∃ dus : List Value, KBn K fd ps n ks (fun us ws => pick idx (us ++ dus ++ ws)) (fun vs zs => pick idx (vs ++ ds ++ zs))
section
variable {K : PySem.W.Frag} {x qual : Str} {params : Arguments} {body : List Stmt} {scope : Scope} {kws : List (Str × V)} {f : Addr} {fd : FuncData} {ps ks : List Str} {n : Nat} {idx : List Nat}
theorem kbD0 (F : FunD K x qual params body scope [] kws f fd)
    (h : ∀ (kV doc pm : Value) (an : Option Addr) (cdv ct : Value) (us ws : List Value), us.length = n → ws.length = ks.length → bindArgs (PySem.W.fnOf x qual params body scope .none kV doc pm an cdv ct) ⟨us, ks.zip ws⟩ = pure (ps.zip (pick idx (us ++ [] ++ ws)))) : KbD K fd ps n ks [] idx := by
  obtain ⟨oc, od, dV, kV, doc, pm, an, cdv, ct, osl, rfl, lk, hcd, hD, hK⟩ := F.ex
  rcases hD with ⟨_, rfl⟩ | ⟨e, _⟩
  · exact ⟨[], fun s us ws X l1 l2 => .of_eq (h kV doc pm an cdv ct us ws l1 l2), fun r1 r2 => vals_pick ((r1.append .nil).append r2) idx⟩
  · exact absurd rfl e
theorem kbD {ms : List (Str × V)} (F : FunD K x qual params body scope [] kws f fd) (hk : kws ≠ []) (hms : ∀ q ∈ ms, q ∈ kws)
    (h : ∀ (D : Addr) (doc pm : Value) (an : Option Addr) (cdv ct : Value) (us mv ws : List Value), us.length = n → mv.length = ms.length → ws.length = ks.length →
      KwChain D ((ms.map (·.1)).zip mv) (bindArgs (PySem.W.fnOf x qual params body scope .none (.ref D) doc pm an cdv ct) ⟨us, ks.zip ws⟩) (ps.zip (pick idx (us ++ mv ++ ws)))) : KbD K fd ps n ks (ms.map (·.2)) idx := by
  obtain ⟨oc, od, dV, kV, doc, pm, an, cdv, ct, osl, rfl, lk, hcd, hD, hK⟩ := F.ex
  rcases hD with ⟨_, rfl⟩ | ⟨e, _⟩
  · rcases hK with e | ⟨D, rfl, hq⟩
    · exact absurd e hk
    · obtain ⟨mv, hl, rk, hks⟩ := kwd_vals (ms := ms) fun q hm => hq q (hms q hm)
      exact ⟨mv, fun s us ws X l1 l2 => BindsTo.of_looks fun M => KwChain.looks X hks (h D doc pm an cdv ct us mv ws l1 hl l2), fun r1 r2 => vals_pick ((r1.append rk).append r2) idx⟩
  · exact absurd rfl e
end
section
variable {X : Cx} {CX : CXT} {k n : Nat} {f : Addr} {fd : FuncData} {ps ks : List Str} {sp : Sp} {E : XK} {x : Str} {p pos : Pos} {e : Expr} {es : List Expr} {kws : List Keyword} {t tk : TA} {ds : List V} {idx : List Nat}
def tCallZ (n m : Nat) (sp : Sp) (ds : List V) (idx : List Nat) (E : XK) (t tk : TA) : TE := fun σ H Q => t σ H fun vs H1 => tk σ H1 fun zs H2 => vs.length = n ∧ zs.length = m ∧ sp (pick idx (vs ++ ds ++ zs)) H2 Q E
theorem pe_callZ (F : FnOk X.prog X.w X.K X.mg X.base CX k f fd ps sp) (hr : Room k X.A) (hg : Gl X x) (hm : X.mg x = some (.ref f)) (hk : PySem.W.keepIn X.K (.ref f) = true) (hb : KbD X.K fd ps n ks ds idx) (hx : Passes CX X E)
    (ha : PA X (e :: es) t) (hkw : PK X kws tk) (hall : (backToKw pos (keywordEach kws X.env)).all (·.1.isSome) = true := by rfl) (hks : (backToKw pos (keywordEach kws X.env)).filterMap (·.1) = ks := by rfl)
    (hdb : (x == ("__debug__" : Str)) = false := by decide) (he : starEach (e :: es) X.env = (false, eval e X.env) :: starEach es X.env := by rfl)
    (hpl : ((backTo pos (starEach (e :: es) X.env)).any (·.1) || (backToKw pos (keywordEach kws X.env)).any (·.1.isNone)) = false := by rfl) :
    PE X (.Call (.Name x p) (e :: es) kws pos) (tCallZ n ks.length sp ds idx E t tk) := by
  obtain ⟨dus, hb⟩ := hb
  exact pe_callN F hr hg hm hk hb hx ha hkw hall hks hdb he hpl
theorem pe_callZ1 (F : FnOk X.prog X.w X.K X.mg X.base CX k f fd ps sp) (hr : Room k X.A) (hg : Gl X x) (hm : X.mg x = some (.ref f)) (hk : PySem.W.keepIn X.K (.ref f) = true) (hb : KbD X.K fd ps n [] ds idx) (hx : Passes CX X E)
    (ha : PA X (e :: es) t) (hdb : (x == ("__debug__" : Str)) = false := by decide) (he : starEach (e :: es) X.env = (false, eval e X.env) :: starEach es X.env := by rfl)
    (hpl : ((backTo pos (starEach (e :: es) X.env)).any (·.1) || (backToKw pos (keywordEach [] X.env)).any (·.1.isNone)) = false := by rfl) :
    PE X (.Call (.Name x p) (e :: es) [] pos) (tCallZ n 0 sp ds idx E t tNil) := pe_callZ F hr hg hm hk hb hx ha pk_nil rfl rfl hdb he hpl
theorem pe_callZ0 (F : FnOk X.prog X.w X.K X.mg X.base CX k f fd ps sp) (hr : Room k X.A) (hg : Gl X x) (hm : X.mg x = some (.ref f)) (hk : PySem.W.keepIn X.K (.ref f) = true) (hb : KbD X.K fd ps 0 ks ds idx) (hx : Passes CX X E)
    (hkw : PK X kws tk) (hall : (backToKw pos (keywordEach kws X.env)).all (·.1.isSome) = true := by rfl) (hks : (backToKw pos (keywordEach kws X.env)).filterMap (·.1) = ks := by rfl)
    (hdb : (x == ("__debug__" : Str)) = false := by decide)
    (hpl : ((backTo pos (starEach [] X.env)).any (·.1) || (backToKw pos (keywordEach kws X.env)).any (·.1.isNone)) = false := by rfl) :
    PE X (.Call (.Name x p) [] kws pos) (tCallZ 0 ks.length sp ds idx E tNil tk) := by
  obtain ⟨dus, hb⟩ := hb
  refine ⟨fun pins s σ H Q I h => ?_⟩
  refine wpAny_Call_Name_kw (ld_glob I hg hm ?_ hdb)
  refine PySem.W.callWith_KW0 (h₀ := X.base) I.ok.mod.kin hk hall ?_ hpl
  refine thn (hkw.run pos pins s σ H _ I h) fun ws s2 ⟨zs, H2, I2, rz, l1, l2, q2⟩ => ⟨I2.kIn, ?_⟩
  rw [hks]
  exact run_fnN F hr hb hx I2 (vs := []) .nil rz l1 l2 q2
theorem w_callZ {n m : Nat} {σ : L2.St} {H : Hp} {Q : VK} (h : t σ H fun vs H1 => tk σ H1 fun zs H2 => vs.length = n ∧ zs.length = m ∧ sp (pick idx (vs ++ ds ++ zs)) H2 Q E) : tCallZ n m sp ds idx E t tk σ H Q := h
end

/-! ### further operators -/
section
variable {X : Cx}
def rMulS : R2 := fun x y H Q => ∃ z k, x = .str z ∧ y = .int k ∧ (0 ≤ k ∧ k ≤ 1000000 ∧ z.length * k.toNat ≤ 1000000) ∧ Q (.str (Txt.mul z k)) H
theorem op_mul_str : OpR X (binaryOp .Mult) rMulS := by
  intro pins s σ H x y u v Q I rx ry h
  obtain ⟨z, k, rfl, rfl, ⟨h0, h1, h2⟩, q⟩ := h
  obtain ⟨t, rfl⟩ := rx
  obtain ⟨t', rfl⟩ := ry
  refine SB.mul ⟨?_, fun a b => ?_, fun a b => ?_⟩ fun t' k' => ⟨.str (Txt.mul z k), H, I.tok _, ⟨_, rfl⟩, q⟩
  · simp
    omega
  · have hk : 1 ≤ k := by omega
    have hz : z.length ≤ 1000000 := by
      have : z.length * 1 ≤ z.length * k.toNat := Nat.mul_le_mul_left _ (by omega)
      omega
    have : (1000000 : Int) ≤ (2 ^ 63 - 1) / k := by
      have hk0 : 0 < k := by omega
      rw [Int.le_ediv_iff_mul_le hk0]
      omega
    omega
  · unfold PySem.Builtin.Str.tooLong
    simp
    rw [sizeLine_eq]
    omega
end

/-! ### the helpers of a law -/
def spCell (K : PySem.W.Frag) : Sp := fun vs H Q _ => ∃ (a : Addr) (ns : List Int) (k : Nat), vs = [.ref a, .int (k : Nat)] ∧ SqL K H a (ns.map V.int) ∧ k < 1000 ∧ ∀ r : Int, Q (.int r) H
def spBag : Sp := fun vs H Q _ => ∃ n : Int, vs = [.int n] ∧ ∀ p o, H p = none → Bag (upd H p o) p 0 → Q (.ref p) (upd H p o)
theorem len_ints {ns : List Int} : (ns.map V.int).length = ns.length := List.length_map _
theorem at_ints {ns : List Int} {k : Nat} (h : k < ns.length) : atI (ns.map V.int) (k : Nat) = some (.int ns[k]) := atI_nat (by rw [List.getElem?_map, List.getElem?_eq_getElem h]; rfl)
theorem w_lenL {K : PySem.W.Frag} {H : Hp} {Q : VK} {p : Addr} {ys : List V} (h : SqL K H p ys) (q : Q (.int ys.length) H) : (fun xs H Q => ∃ p ys, xs = [V.ref p] ∧ (SqL K H p ys ∨ SqT K H p ys) ∧ Q (.int ys.length) H) [.ref p] H Q := ⟨p, ys, rfl, .inl h, q⟩
theorem w_isi {K : PySem.W.Frag} {H : Hp} {Q : VK} {x : V} {T n : String} {b : Bool} (h : TyX K H x (.type T)) (e : kitB T n = some b) (q : Q (.bl b) H) : rIsi K [x, .ty n] H Q := ⟨x, .ty n, .type T, .type n, b, rfl, .ty n, h, kit_ty e, q⟩
theorem w_nF {A B : Prop} (h : B) : if (!true) = true then A else B := iteF h
theorem w_nT {A B : Prop} (h : A) : if (!false) = true then A else B := iteT h

/-! ### texts as lists of codes -/
abbrev tl (z : Str) : List Nat := z.cps.toList
theorem tl_mkS (l : List Nat) : tl (mkS l) = l := rfl
theorem mkS_tl (z : Str) : mkS (tl z) = z := TL.mk_tl z
theorem len_tl (z : Str) : z.length = (tl z).length := TL.len_tl z
theorem mkS_inj {a b : List Nat} (h : mkS a = mkS b) : a = b := by
  have e := congrArg tl h
  exact e
def cut1 (c : Nat) : List Nat → List Nat → List (List Nat)
  | acc, [] => [acc]
  | acc, d :: r => if d = c then acc :: cut1 c [] r else cut1 c (acc ++ [d]) r
theorem spl_cut1 (c : Nat) : ∀ (l acc : List Nat), TL.spl [c] 0 acc l = cut1 c acc l
  | [], acc => rfl
  | d :: r, acc => by
    have hp : TL.pre [c] (d :: r) = decide (d = c) := by
      show ([d] == [c]) = decide (d = c)
      by_cases e : d = c
      · simp [e]
      · simp [e]
    by_cases e : d = c
    · rw [TL.spl_hit (by rw [hp]; exact decide_eq_true e)]
      show acc :: TL.spl [c] 0 [] r = _
      rw [spl_cut1 c r []]
      simp [cut1, e]
    · rw [TL.spl_miss (by rw [hp]; exact decide_eq_false e), spl_cut1 c r (acc ++ [d])]
      simp [cut1, e]
theorem split_cut1 (z : Str) {c : Nat} (hc : c < 256) : Txt.split z (mkS [c]) = (cut1 c [] (tl z)).map mkS := by
  refine TL.map_tl_inj ?_
  have h := TL.split_spl z (mkS [c]) (by simp [TL.tl, mkS]) (TL.kind_ok (by simp [mkS, hc]))
  rw [h, List.map_map]
  show TL.spl [c] 0 [] (tl z) = _
  rw [spl_cut1]
  show _ = (cut1 c [] (tl z)).map (tl ∘ mkS)
  have : (tl ∘ mkS) = id := rfl
  rw [this, List.map_id]
theorem cut1_len (c : Nat) : ∀ (l acc : List Nat), (cut1 c acc l).length ≤ l.length + 1
  | [], _ => Nat.le_refl _
  | d :: r, acc => by
    unfold cut1
    split
    · have := cut1_len c r []
      simp only [List.length_cons]
      omega
    · have := cut1_len c r (acc ++ [d])
      simp only [List.length_cons]
      omega
/-- flat things in a list of texts -/
theorem flat_strs (l : List Str) : (l.map V.str).all flatV = true := by simp [flatV]
theorem inV_str {x : Str} : ∀ {l : List Str}, inV (.str x) (l.map V.str) = decide (x ∈ l)
  | [] => by simp [inV]
  | y :: l => by
    have ih := inV_str (x := x) (l := l)
    have e : inV (.str x) (V.str y :: l.map V.str) = (eqV (.str y) (.str x) || inV (.str x) (l.map V.str)) := rfl
    show inV (.str x) (V.str y :: l.map V.str) = _
    rw [e, ih]
    have e2 : eqV (.str y) (.str x) = decide (x = y) := by
      by_cases h : x = y
      · simp [eqV, h]
      · have h2 : ¬ y = x := fun z => h z.symm
        simp [eqV, h, h2]
    rw [e2]
    by_cases h : x = y <;> simp [h]

/-! ### loops -/
section
variable {K : PySem.W.Frag} {σ : L2.St} {H H1 : Hp} {Q : VK} {D : Ends} {g : TG} {tb : TS} {wi : TI} {J : It} {tt : TT} {te ta : TE} {vs : List Nat} {tr : TA}
def ForGo (J : It) (g : TG) (tb : TS) (D : Ends) (σ : L2.St) (H1 : Hp) : Prop := ∃ W : Nat → Nat → L2.St → Hp → Prop, (∃ m, W 0 m σ H1) ∧ ∀ i m σ H, W i m σ H →
  (J.stop i H ∧ D.nx σ H) ∨ (J.go i H ∧ ∃ N : L2.St → Hp → Prop, (∀ σ' H', N σ' H' → ∃ m', m' < m ∧ W (i + 1) m' σ' H') ∧ ∀ x H', J.yld i H x H' → g x σ H' fun σ2 H2 => tb { D with nx := N, ct := N, bk := D.nx } σ2 H2)
theorem w_for (h : wi σ H fun J H1 => ForGo J g tb D σ H1) : tFor wi g tb D σ H := h
def LcGo (J : It) (g : TG) (tt : TT) (te : TE) (vs : List Nat) (σ : L2.St) (H1 : Hp) (D : Addr) (Qd : Hp → Prop) : Prop := ∃ W : Nat → Nat → Hp → Prop, (∃ m, W 0 m (upd H1 D (.lst []))) ∧ ∀ i m H, W i m H →
  (J.stop i H ∧ Qd H) ∨ (J.go i H ∧ ∃ Nx : Hp → Prop, (∀ H', Nx H' → ∃ m', m' < m ∧ W (i + 1) m' H') ∧ ∀ x H', J.yld i H x H' → g x (wipe σ vs) H' fun σ2 H2 => wipe σ2 vs = wipe σ vs ∧ tt σ2 H2 fun b H3 =>
    if b = true then te σ2 H3 fun y H4 => ∃ acc, H4 D = some (.lst acc) ∧ acc.length < sizeLine ∧ Nx (upd H4 D (.lst (acc ++ [y]))) else Nx H3)
theorem w_lc (h : wi σ H fun J H1 => ∀ D, H1 D = none → LcGo J g tt te vs σ H1 D fun H => Q (.ref D) H) : tLc wi g tt te vs σ H Q := h
theorem w_iStr {R : It → Hp → Prop} (h : ta σ H fun v H1 => ∃ x, v = .str x ∧ R (Its x) H1) : iStr ta σ H R := h
theorem w_iList {R : It → Hp → Prop} (h : ta σ H fun x H1 => ∃ a, x = .ref a ∧ (∃ xs, SqL K H1 a xs) ∧ R (Itl K a) H1) : iList K ta σ H R := h
theorem w_iTup {R : It → Hp → Prop} (h : ta σ H fun x H1 => ∃ a, x = .ref a ∧ (∃ xs, SqT K H1 a xs) ∧ R (Itt K a) H1) : iTup K ta σ H R := h
theorem w_iRng1 {R : It → Hp → Prop} (h : tr σ H fun vs H1 => ∃ j : Int, vs = [.int j] ∧ -(2 ^ 62) ≤ j ∧ j < 2 ^ 62 ∧ R (Itr 0 j.toNat) H1) : iRng1 tr σ H R := h
theorem for_text {z : Str} (Pv : Nat → L2.St → Hp → Prop) (h0 : Pv 0 σ H)
    (hs : ∀ i c σ H, (tl z)[i]? = some c → Pv i σ H → g (.str (mkS [c])) σ H fun σ2 H2 => tb { D with nx := Pv (i + 1), ct := Pv (i + 1), bk := D.nx } σ2 H2) (hd : ∀ σ H, Pv (tl z).length σ H → D.nx σ H) : ForGo (Its z) g tb D σ H := by
  refine for_it (walk_str (z := z)) Pv h0 (fun _ _ _ _ _ => trivial) (fun i x σ H H' hi p y => ?_) (fun σ H p => hd σ H (by simpa using p))
  obtain ⟨rfl, c, e, rfl⟩ := y
  exact hs i c σ H' (by simpa using e) p
theorem for_rng {n : Nat} {lo : Int} (Pv : Nat → L2.St → Hp → Prop) (h0 : Pv 0 σ H)
    (hs : ∀ i σ H, i < n → Pv i σ H → g (.int (lo + i)) σ H fun σ2 H2 => tb { D with nx := Pv (i + 1), ct := Pv (i + 1), bk := D.nx } σ2 H2) (hd : ∀ σ H, Pv n σ H → D.nx σ H) : ForGo (Itr lo n) g tb D σ H := by
  refine for_it (walk_range (lo := lo) (n := n)) Pv h0 (fun _ _ _ _ _ => trivial) (fun i x σ H H' hi p y => ?_) hd
  obtain ⟨rfl, rfl⟩ := y
  exact hs i σ H' hi p
theorem for_lst {a : Addr} {xs : List V} (Pv : Nat → L2.St → Hp → Prop) (h0 : Pv 0 σ H) (hG : ∀ i σ H, i ≤ xs.length → Pv i σ H → SqL K H a xs)
    (hs : ∀ i x σ H, xs[i]? = some x → Pv i σ H → g x σ H fun σ2 H2 => tb { D with nx := Pv (i + 1), ct := Pv (i + 1), bk := D.nx } σ2 H2) (hd : ∀ σ H, Pv xs.length σ H → D.nx σ H) : ForGo (Itl K a) g tb D σ H := by
  refine for_it (walk_list (K := K) (a := a) (xs := xs)) Pv h0 hG (fun i x σ H H' hi p y => ?_) hd
  obtain ⟨rfl, e⟩ := y
  exact hs i x σ H' e p
/-- what is made so far is told by R -/
def Acc (Dl : Addr) (R : List V → Hp → Prop) (H : Hp) : Prop := ∃ acc, H Dl = some (.lst acc) ∧ R acc H
theorem lc_acc {n : Nat} {G : Hp → Prop} {Y : Nat → Hp → V → Hp → Prop} (w : Walk J n G Y) {Dl : Addr} {Qd : Hp → Prop} (R : Nat → List V → Hp → Prop) (h0 : R 0 [] (upd H1 Dl (.lst []))) (hG : ∀ i acc H, i ≤ n → R i acc H → H Dl = some (.lst acc) → G H)
    (hs : ∀ i acc x H H', i < n → R i acc H → H Dl = some (.lst acc) → Y i H x H' → g x (wipe σ vs) H' fun σ2 H2 => wipe σ2 vs = wipe σ vs ∧ tt σ2 H2 fun b H3 =>
      if b = true then te σ2 H3 fun y H4 => ∃ acc, H4 Dl = some (.lst acc) ∧ acc.length < sizeLine ∧ Acc Dl (R (i + 1)) (upd H4 Dl (.lst (acc ++ [y]))) else Acc Dl (R (i + 1)) H3)
    (hd : ∀ acc H, R n acc H → H Dl = some (.lst acc) → Qd H) : LcGo J g tt te vs σ H1 Dl Qd :=
  lc_it w (fun i H => Acc Dl (R i) H) ⟨[], upd_same, h0⟩ (fun i H hi ⟨acc, e, r⟩ => hG i acc H hi r e) (fun i x H H' hi ⟨acc, e, r⟩ y => hs i acc x H H' hi r e y) (fun H ⟨acc, e, r⟩ => hd acc H r e)
theorem lc_text {z : Str} {Dl : Addr} {Qd : Hp → Prop} (R : Nat → List V → Hp → Prop) (h0 : R 0 [] (upd H1 Dl (.lst [])))
    (hs : ∀ i acc c H, (tl z)[i]? = some c → R i acc H → H Dl = some (.lst acc) → g (.str (mkS [c])) (wipe σ vs) H fun σ2 H2 => wipe σ2 vs = wipe σ vs ∧ tt σ2 H2 fun b H3 =>
      if b = true then te σ2 H3 fun y H4 => ∃ acc, H4 Dl = some (.lst acc) ∧ acc.length < sizeLine ∧ Acc Dl (R (i + 1)) (upd H4 Dl (.lst (acc ++ [y]))) else Acc Dl (R (i + 1)) H3)
    (hd : ∀ acc H, R (tl z).length acc H → H Dl = some (.lst acc) → Qd H) : LcGo (Its z) g tt te vs σ H1 Dl Qd := by
  refine lc_acc (walk_str (z := z)) R h0 (fun _ _ _ _ _ _ => trivial) (fun i acc x H H' hi r e y => ?_) (fun acc H r => hd acc H (by simpa using r))
  obtain ⟨rfl, c, e2, rfl⟩ := y
  exact hs i acc c H' (by simpa using e2) r e
theorem lc_rng {n : Nat} {lo : Int} {Dl : Addr} {Qd : Hp → Prop} (R : Nat → List V → Hp → Prop) (h0 : R 0 [] (upd H1 Dl (.lst [])))
    (hs : ∀ i acc H, i < n → R i acc H → H Dl = some (.lst acc) → g (.int (lo + i)) (wipe σ vs) H fun σ2 H2 => wipe σ2 vs = wipe σ vs ∧ tt σ2 H2 fun b H3 =>
      if b = true then te σ2 H3 fun y H4 => ∃ acc, H4 Dl = some (.lst acc) ∧ acc.length < sizeLine ∧ Acc Dl (R (i + 1)) (upd H4 Dl (.lst (acc ++ [y]))) else Acc Dl (R (i + 1)) H3)
    (hd : ∀ acc H, R n acc H → H Dl = some (.lst acc) → Qd H) : LcGo (Itr lo n) g tt te vs σ H1 Dl Qd := by
  refine lc_acc (walk_range (lo := lo) (n := n)) R h0 (fun _ _ _ _ _ _ => trivial) (fun i acc x H H' hi r e y => ?_) hd
  obtain ⟨rfl, rfl⟩ := y
  exact hs i acc H' hi r e
theorem lc_lst {a : Addr} {xs : List V} {Dl : Addr} {Qd : Hp → Prop} (R : Nat → List V → Hp → Prop) (h0 : R 0 [] (upd H1 Dl (.lst []))) (hG : ∀ i acc H, i ≤ xs.length → R i acc H → H Dl = some (.lst acc) → SqL K H a xs)
    (hs : ∀ i acc x H, xs[i]? = some x → R i acc H → H Dl = some (.lst acc) → g x (wipe σ vs) H fun σ2 H2 => wipe σ2 vs = wipe σ vs ∧ tt σ2 H2 fun b H3 =>
      if b = true then te σ2 H3 fun y H4 => ∃ acc, H4 Dl = some (.lst acc) ∧ acc.length < sizeLine ∧ Acc Dl (R (i + 1)) (upd H4 Dl (.lst (acc ++ [y]))) else Acc Dl (R (i + 1)) H3)
    (hd : ∀ acc H, R xs.length acc H → H Dl = some (.lst acc) → Qd H) : LcGo (Itl K a) g tt te vs σ H1 Dl Qd := by
  refine lc_acc (walk_list (K := K) (a := a) (xs := xs)) R h0 hG (fun i acc x H H' hi r e y => ?_) hd
  obtain ⟨rfl, e2⟩ := y
  exact hs i acc x H' e2 r e
end
theorem lt_line {n : Nat} (h : n < 16777216) : n < sizeLine := by rw [sizeLine_eq]; exact h
theorem le_line {n : Nat} (h : n ≤ 16777216) : n ≤ sizeLine := by rw [sizeLine_eq]; exact h
theorem w_append {H : Hp} {Q : VK} {p : Addr} {xs : List V} {y : V} (h : H p = some (.lst xs)) (hl : xs.length < 16777216) (q : Q .non (upd H p (.lst (xs ++ [y])))) : rAppend (.ref p) [y] H Q := ⟨p, xs, y, rfl, rfl, h, lt_line hl, q⟩
theorem w_inL {K : PySem.W.Frag} {H : Hp} {Q : VK} {p : Addr} {xs : List V} {x : V} (h : H p = some (.lst xs)) (hx : flatV x = true) (hs : xs.all flatV = true) (q : Q (.bl (inV x xs)) H) : rIn K false x (.ref p) H Q := ⟨p, xs, rfl, .inl (SqL.of h), hx, hs, q⟩
theorem w_niL {K : PySem.W.Frag} {H : Hp} {Q : VK} {p : Addr} {xs : List V} {x : V} (h : H p = some (.lst xs)) (hx : flatV x = true) (hs : xs.all flatV = true) (q : Q (.bl (!inV x xs)) H) : rIn K true x (.ref p) H Q := ⟨p, xs, rfl, .inl (SqL.of h), hx, hs, q⟩
theorem mkS_app (a b : List Nat) : mkS a ++ mkS b = mkS (a ++ b) := TL.ext_tl (by rw [TL.tl_append]; rfl)
theorem tl_app (x y : Str) : tl (x ++ y) = tl x ++ tl y := TL.tl_append x y
theorem take_go {b : Addr} {m : Int} {n : Nat} {H : Hp} {Q : VK} {E : XK} (hm0 : 0 < m) (hm1 : m < 1073741824) (hB : Bag H b n) (hn : n < 1073741824) (q : ∀ r H', 0 ≤ r → r < m → Keep [b] H H' → Bag H' b (n + 1) → Q (.int r) H') : spTake [.ref b, .int m] H Q E := ⟨b, m, n, rfl, hm0, hm1, hB, hn, q⟩
theorem Bag.new {H : Hp} {b p : Addr} {n : Nat} {o : HO} (h : Bag H b n) (hp : H p = none) : Bag (upd H p o) b n := by
  obtain ⟨x, y, z, e, r⟩ := h
  exact ⟨x, y, z, by rw [upd_ne (ne_of_none e hp)]; exact e, r⟩
theorem Bag.ne {H : Hp} {b p : Addr} {n : Nat} (h : Bag H b n) (hp : H p = none) : p ≠ b := by
  obtain ⟨x, y, z, e, r⟩ := h
  exact (ne_of_none e hp).symm
theorem Bag.upd {H : Hp} {b p : Addr} {n : Nat} {o : HO} (h : Bag H b n) (hp : b ≠ p) : Bag (upd H p o) b n := by
  obtain ⟨x, y, z, e, r⟩ := h
  exact ⟨x, y, z, by rw [upd_ne hp]; exact e, r⟩
/-- a place that is new since H may be changed -/
theorem Keep.updNew {S : List Addr} {H H1 : Hp} {p : Addr} {o : HO} (k : Keep S H H1) (hp : H p = none) : Keep S H (upd H1 p o) := fun a u e => by
  have n : a ≠ p := ne_of_none e hp
  rw [upd_ne n]
  exact k a u e
theorem Keep.upd {S : List Addr} {H H1 : Hp} {p : Addr} {o : HO} (k : Keep S H H1) (hp : p ∈ S) : Keep S H (L2.upd H1 p o) := k.trans (Keep.set hp)
/-! texts joined, multiplied -/
theorem joinL_len (S : List Nat) : ∀ l : List (List Nat), (TL.joinL S l).length ≤ (l.map List.length).sum + l.length * S.length
  | [] => by simp [TL.joinL]
  | [p] => by simp [TL.joinL]
  | p :: q :: r => by
    have ih := joinL_len S (q :: r)
    show (p ++ (S ++ TL.joinL S (q :: r))).length ≤ _
    simp only [List.length_append, List.map_cons, List.sum_cons, List.length_cons, Nat.add_mul, Nat.one_mul] at ih ⊢
    omega
theorem tl_join (a : Str) (ys : List Str) : tl (Txt.join a ys) = TL.joinL (tl a) (ys.map tl) := by
  rw [TL.join_eq]
  exact TL.tl_join a ys
theorem join_len (a : Str) (ys : List Str) : (Txt.join a ys).length ≤ (ys.map (·.length)).sum + ys.length * a.length := by
  have h := joinL_len (tl a) (ys.map tl)
  rw [len_tl, tl_join]
  have e : (ys.map tl).map List.length = ys.map (·.length) := by
    rw [List.map_map]
    exact List.map_congr_left fun x _ => (len_tl x).symm
  rw [e, List.length_map, ← len_tl a] at h
  exact h
theorem sum_le {l : List Nat} {m : Nat} (h : ∀ x ∈ l, x ≤ m) : l.sum ≤ l.length * m := by
  induction l with
  | nil => simp
  | cons x r ih =>
    have h1 := h x (List.mem_cons_self ..)
    have h2 := ih fun y hy => h y (List.mem_cons_of_mem _ hy)
    simp only [List.sum_cons, List.length_cons, Nat.add_mul, Nat.one_mul]
    omega
theorem foldl_app : ∀ (l : List (Array Nat)) (a : Array Nat), (l.foldl (· ++ ·) a).toList = a.toList ++ (l.map Array.toList).flatten
  | [], a => by simp
  | x :: l, a => by
    rw [List.foldl_cons, foldl_app l (a ++ x)]
    simp
theorem tl_mul {z : Str} {k : Int} (h : 0 ≤ k) : tl (Txt.mul z k) = (List.replicate k.toNat (tl z)).flatten := by
  unfold Txt.mul
  by_cases h1 : k < 1
  · have e : k = 0 := by omega
    subst e
    rfl
  · rw [if_neg h1]
    by_cases h2 : (k == 1 || z.length == 0) = true
    · rw [if_pos h2]
      simp only [Bool.or_eq_true, beq_iff_eq] at h2
      rcases h2 with h2 | h2
      · subst h2
        simp
      · have e : tl z = [] := by
          rw [len_tl] at h2
          exact List.length_eq_zero_iff.mp h2
        rw [e]
        simp
    · rw [if_neg h2]
      show ((List.replicate k.toNat z.cps).foldl (· ++ ·) #[]).toList = _
      rw [foldl_app]
      simp
theorem mul_len {z : Str} {k : Int} (h : 0 ≤ k) : (Txt.mul z k).length = k.toNat * z.length := by
  rw [len_tl, tl_mul h, List.length_flatten, List.map_replicate, List.sum_replicate_nat, len_tl]
theorem one_strs {l : List V} {p : Nat → Prop} (h : ∀ v ∈ l, ∃ c, v = V.str (mkS [c]) ∧ p c) : ∃ cs : List Nat, l = (cs.map fun c => mkS [c]).map V.str ∧ ∀ c ∈ cs, p c := by
  induction l with
  | nil => exact ⟨[], rfl, fun c hc => by cases hc⟩
  | cons v r ih =>
    obtain ⟨c, rfl, pc⟩ := h v (List.mem_cons_self ..)
    obtain ⟨cs, e, pcs⟩ := ih fun w hw => h w (List.mem_cons_of_mem _ hw)
    refine ⟨c :: cs, by rw [e]; rfl, fun d hd => ?_⟩
    rcases List.mem_cons.mp hd with z | z
    · exact z ▸ pc
    · exact pcs d z
theorem all_strs {l : List V} {p : Str → Prop} (h : ∀ v ∈ l, ∃ c, v = V.str c ∧ p c) : ∃ cs : List Str, l = cs.map V.str ∧ ∀ c ∈ cs, p c := by
  induction l with
  | nil => exact ⟨[], rfl, fun c hc => by cases hc⟩
  | cons v r ih =>
    obtain ⟨c, rfl, pc⟩ := h v (List.mem_cons_self ..)
    obtain ⟨cs, e, pcs⟩ := ih fun w hw => h w (List.mem_cons_of_mem _ hw)
    refine ⟨c :: cs, by rw [e]; rfl, fun d hd => ?_⟩
    rcases List.mem_cons.mp hd with z | z
    · exact z ▸ pc
    · exact pcs d z
theorem all_snoc {l : List V} {p : V → Prop} {v : V} (h : ∀ x ∈ l, p x) (hv : p v) : ∀ x ∈ l ++ [v], p x := fun x hx => by
  rcases List.mem_append.mp hx with z | z
  · exact h x z
  · exact (show x = v by simpa using z) ▸ hv
theorem at_head {α : Type} {x : α} {r : List α} : atI (x :: r) 0 = some x := atI_nat (j := 0) rfl
theorem sum_ones (cs : List Nat) : ((cs.map fun c => mkS [c]).map (·.length)).sum = cs.length := by
  induction cs with
  | nil => rfl
  | cons c r ih =>
    simp only [List.map_cons, List.sum_cons, List.length_cons]
    have e : (mkS [c]).length = 1 := rfl
    rw [ih, e]
    omega
theorem joinL_ones : ∀ cs : List Nat, TL.joinL [] (cs.map fun c => [c]) = cs
  | [] => rfl
  | [c] => rfl
  | c :: d :: r => by
    show [c] ++ ([] ++ TL.joinL [] ((d :: r).map fun c => [c])) = _
    rw [joinL_ones (d :: r)]
    rfl
theorem join_ones (cs : List Nat) : Txt.join "" (cs.map fun c => mkS [c]) = mkS cs := by
  refine TL.ext_tl ?_
  show tl _ = tl _
  rw [tl_join, List.map_map]
  exact joinL_ones cs
theorem atS {z : Str} {r : Int} (h0 : 0 ≤ r) (h : r < z.length) : ∃ c, (tl z)[r.toNat]? = some c ∧ atI z.cps.toList r = some c := by
  rw [len_tl] at h
  have hl : r.toNat < (tl z).length := by omega
  refine ⟨(tl z)[r.toNat], List.getElem?_eq_getElem hl, ?_⟩
  have e : r = ((r.toNat : Nat) : Int) := by omega
  conv => lhs; rw [e]
  exact atI_nat (List.getElem?_eq_getElem hl)

/-! ### texts of plain signs -/
def Asc (z : Str) : Prop := ∀ c ∈ tl z, c < 128
theorem Asc.app {x y : Str} (hx : Asc x) (hy : Asc y) : Asc (x ++ y) := fun c hc => by
  rw [tl_app] at hc
  rcases List.mem_append.mp hc with h | h
  · exact hx c h
  · exact hy c h
theorem Asc.ok {z : Str} (h : Asc z) : PyData.strOk z = true := by
  unfold PyData.strOk
  rw [Array.all_eq_true]
  intro i hi
  have := h z.cps[i] (by simp [tl])
  simp
  omega
theorem Asc.mk {l : List Nat} (h : ∀ c ∈ l, c < 128) : Asc (mkS l) := h
theorem Asc.mul {z : Str} {k : Int} (h : Asc z) (hk : 0 ≤ k) : Asc (Txt.mul z k) := fun c hc => by
  rw [tl_mul hk] at hc
  obtain ⟨l, hl, hc⟩ := List.mem_flatten.mp hc
  rw [List.eq_of_mem_replicate hl] at hc
  exact h c hc
theorem mem_joinL {S : List Nat} {c : Nat} : ∀ {l : List (List Nat)}, c ∈ TL.joinL S l → c ∈ S ∨ ∃ p ∈ l, c ∈ p
  | [], h => by cases h
  | [p], h => .inr ⟨p, List.mem_singleton.mpr rfl, h⟩
  | p :: q :: r, h => by
    have h : c ∈ p ++ (S ++ TL.joinL S (q :: r)) := h
    rcases List.mem_append.mp h with h | h
    · exact .inr ⟨p, List.mem_cons_self .., h⟩
    rcases List.mem_append.mp h with h | h
    · exact .inl h
    rcases mem_joinL h with h | ⟨x, hx, h⟩
    · exact .inl h
    · exact .inr ⟨x, List.mem_cons_of_mem _ hx, h⟩
theorem Asc.join {a : Str} {ys : List Str} (h : Asc a) (hs : ∀ y ∈ ys, Asc y) : Asc (Txt.join a ys) := fun c hc => by
  rw [tl_join] at hc
  rcases mem_joinL hc with z | ⟨p, hp, z⟩
  · exact h c z
  · obtain ⟨y, hy, rfl⟩ := List.mem_map.mp hp
    exact hs y hy c z
theorem cut1_sub (c : Nat) : ∀ (l acc : List Nat) (p : List Nat), p ∈ cut1 c acc l → ∀ d ∈ p, d ∈ acc ∨ d ∈ l
  | [], acc, p, hp, d, hd => by
    have : p = acc := by simpa [cut1] using hp
    exact .inl (this ▸ hd)
  | e :: r, acc, p, hp, d, hd => by
    unfold cut1 at hp
    split at hp
    · rcases List.mem_cons.mp hp with h | h
      · exact .inl (h ▸ hd)
      · rcases cut1_sub c r [] p h d hd with h | h
        · cases h
        · exact .inr (List.mem_cons_of_mem _ h)
    · rcases cut1_sub c r (acc ++ [e]) p hp d hd with h | h
      · rcases List.mem_append.mp h with h | h
        · exact .inl h
        · exact .inr (by simp at h; simp [h])
      · exact .inr (List.mem_cons_of_mem _ h)
theorem Asc.cut1 {z : Str} (h : Asc z) {c : Nat} {p : List Nat} (hp : p ∈ Fr.cut1 c [] (tl z)) : Asc (mkS p) := fun d hd => by
  rcases cut1_sub c (tl z) [] p hp d hd with h' | h'
  · cases h'
  · exact h d h'
theorem Asc.cutS {z : Str} (h : Asc z) (lo hi : Option Int) : Asc (L2.cutS z lo hi) := fun c hc => by
  unfold L2.cutS at hc
  exact h c (List.mem_of_mem_drop (List.mem_of_mem_take hc))
/-! ### data of some depth, compared -/
theorem lay_strs : ∀ l : List Str, (∀ x ∈ l, Asc x) → PyData.canLayAll0 (l.map PyData.str) = true ∧ PyData.depthAll (l.map PyData.str) = 0
  | [], _ => ⟨rfl, rfl⟩
  | x :: l, h => by
    obtain ⟨a, b⟩ := lay_strs l fun y hy => h y (List.mem_cons_of_mem _ hy)
    constructor
    · simp [PyData.canLayAll0, PyData.canLay0, a, (h x (List.mem_cons_self ..)).ok]
    · simp [PyData.depthAll, PyData.depth, b]
theorem shaped_strs {l : List Str} (h : ∀ x ∈ l, Asc x) : SeqAt.shaped (.list (l.map PyData.str)) = true := by
  obtain ⟨a, b⟩ := lay_strs l h
  unfold SeqAt.shaped
  simp [PyData.canLay0, a, PyData.depth, b]
theorem dp_strs {K : PySem.W.Frag} {H : Hp} : ∀ l : List Str, DpAll K H (l.map V.str) (l.map PyData.str)
  | [] => .nil
  | x :: l => .cons (.str x) (dp_strs l)
theorem w_neD {K : PySem.W.Frag} {H : Hp} {Q : VK} {x y : V} {d e : PyData} (hx : Dp K H x d) (hy : Dp K H y e) (hd : SeqAt.shaped d = true) (he : SeqAt.shaped e = true) (q : Q (.bl (!PyData.eqv d e)) H) : rNeD K x y H Q := ⟨d, e, hx, hy, hd, he, q⟩
theorem w_eqD {K : PySem.W.Frag} {H : Hp} {Q : VK} {x y : V} {d e : PyData} (hx : Dp K H x d) (hy : Dp K H y e) (hd : SeqAt.shaped d = true) (he : SeqAt.shaped e = true) (q : Q (.bl (PyData.eqv d e)) H) : rEqD K x y H Q := ⟨d, e, hx, hy, hd, he, q⟩
theorem eqv_self {d : PyData} (h : SeqAt.shaped d = true) : PyData.eqv d d = true := SeqAt.eqv_refl d (SeqAt.canLay_of_shaped h)
theorem Keep.fresh {S : List Addr} {H H1 : Hp} (k : Keep S H H1) (h : ∀ p ∈ S, H p = none) : Keep [] H H1 := fun a o e => ⟨(k a o e).1, fun _ => (k a o e).2 fun z => by
  rw [h a z] at e
  cases e⟩
theorem Keep.sqL {K : PySem.W.Frag} {H H1 : Hp} {a : Addr} {xs : List V} (k : Keep [] H H1) (h : SqL K H a xs) : SqL K H1 a xs := by
  rcases h with (h | ⟨o, h⟩) | h
  · exact .inl (.inl (k.get h (by simp)))
  · exact .inl (.inr ⟨o, k.get h (by simp)⟩)
  · exact .inr h
theorem cell_go {K : PySem.W.Frag} {a : Addr} {ns : List Int} {k : Nat} {H : Hp} {Q : VK} {E : XK} (hS : SqL K H a (ns.map V.int)) (hk : k < 1000) (q : ∀ r : Int, Q (.int r) H) : spCell K [.ref a, .int (0 + (k : Nat))] H Q E := ⟨a, ns, k, by rw [Int.zero_add], hS, hk, q⟩
theorem bag_go {n : Int} {H : Hp} {Q : VK} {E : XK} (q : ∀ p o, H p = none → Bag (upd H p o) p 0 → Q (.ref p) (upd H p o)) : spBag [.int n] H Q E := ⟨n, rfl, q⟩
/-- an item of a list at a place in bounds -/
theorem at_all {xs : List V} {r : Int} {p : V → Prop} (h0 : 0 ≤ r) (h1 : r < xs.length) (h : ∀ v ∈ xs, p v) : ∃ v, atI xs r = some v ∧ p v := by
  have hl : r.toNat < xs.length := by omega
  have e : r = ((r.toNat : Nat) : Int) := by omega
  refine ⟨xs[r.toNat], ?_, h _ (List.getElem_mem hl)⟩
  conv => lhs; rw [e]
  exact atI_nat (List.getElem?_eq_getElem hl)
def NotStr (K : PySem.W.Frag) (H : Hp) (v : V) : Prop := ∃ T, TyX K H v (.type T) ∧ kitB T "str" = some false
theorem notStr_non {K : PySem.W.Frag} {H : Hp} : NotStr K H .non := ⟨_, .base .non, by decide +kernel⟩
theorem notStr_bl {K : PySem.W.Frag} {H : Hp} {b : Bool} : NotStr K H (.bl b) := ⟨_, .base (.bl b), by decide +kernel⟩
theorem notStr_int {K : PySem.W.Frag} {H : Hp} {i : Int} : NotStr K H (.int i) := ⟨_, .base (.int i), by decide +kernel⟩
theorem notStr_lst {K : PySem.W.Frag} {H : Hp} {p : Addr} {xs : List V} (h : H p = some (.lst xs)) : NotStr K H (.ref p) := ⟨_, .base (.lst h), by decide +kernel⟩
theorem notStr_tup {K : PySem.W.Frag} {H : Hp} {p : Addr} {xs : List V} (h : H p = some (.tup xs)) : NotStr K H (.ref p) := ⟨_, .base (.tup h), by decide +kernel⟩
theorem notStr_dK {K : PySem.W.Frag} {H : Hp} {p : Addr} {xs : List (Key × V)} (h : H p = some (.dK xs)) : NotStr K H (.ref p) := ⟨_, .base (.dK h), by decide +kernel⟩
/-! operators under names -/
def rAddT : R2 := fun x y H Q => ∃ i j, x = .str i ∧ y = .str j ∧ i.length + j.length ≤ sizeLine ∧ Q (.str (i ++ j)) H
theorem op_addT {X : Cx} : OpR X (binaryOp .Add) rAddT := op_add_str
theorem w_addT {H : Hp} {Q : VK} {a b : Str} (h : a.length + b.length ≤ 16777216) (q : Q (.str (a ++ b)) H) : rAddT (.str a) (.str b) H Q := ⟨a, b, rfl, rfl, le_line h, q⟩
theorem app_len (a b : Str) : (a ++ b).length = a.length + b.length := by
  rw [len_tl, tl_app, List.length_append, ← len_tl, ← len_tl]
theorem mkS_len (l : List Nat) : (mkS l).length = l.length := rfl
theorem asc_of {z : Str} (h : (tl z).all (fun c => decide (c < 128)) = true) : Asc z := fun c hc => of_decide_eq_true (List.all_eq_true.mp h c hc)
theorem w_dnewK {σ : L2.St} {H : Hp} {Q : VK} (h : ∀ p, H p = none → Q (.ref p) (upd H p (.dK []))) : tDNewK σ H Q := h
theorem stay {H : Hp} {p q : Addr} {o u : HO} (h : H q = some o) (hp : H p = none) : upd H p u q = some o := by
  rw [upd_ne (ne_of_none h hp)]
  exact h
theorem one_eq {c d : Nat} : mkS [c] = mkS [d] ↔ c = d := ⟨fun e => by simpa using mkS_inj e, fun e => by rw [e]⟩
theorem head_at {l : List Nat} (h : l ≠ []) : ∃ c r, l = c :: r ∧ atI l 0 = some c := by
  cases l with
  | nil => exact absurd rfl h
  | cons c r => exact ⟨c, r, rfl, at_head⟩
theorem take_snoc {α : Type} {l : List α} {i : Nat} {c : α} (h : l[i]? = some c) : l.take (i + 1) = l.take i ++ [c] := by
  rw [List.take_add_one, h]
  rfl
theorem ixL_all {K : PySem.W.Frag} {H : Hp} {Q : VK} {p : Addr} {xs : List V} {r : Int} {P : V → Prop} (e : H p = some (.lst xs)) (h0 : 0 ≤ r) (h1 : r < xs.length) (h : ∀ v ∈ xs, P v) (q : ∀ v, P v → Q v H) : rIxL K (.ref p) (.int r) H Q := by
  obtain ⟨v, hv, pv⟩ := at_all h0 h1 h
  exact w_ixL e hv (q v pv)
theorem Bag.keep0 {H H' : Hp} {b : Addr} {n : Nat} (h : Bag H b n) (k : Keep [] H H') : Bag H' b n := by
  obtain ⟨x, y, z, e, r⟩ := h
  exact ⟨x, y, z, k.get e (by simp), r⟩
theorem Keep.up {b : Addr} {H H' : Hp} (k : Keep [] H H') : Keep [b] H H' := k.mono (by simp)
theorem tyX_keep {K : PySem.W.Frag} {H H' : Hp} {x : V} {t : Value} (h : TyX K H x t) (k : Keep [] H H') : TyX K H' x t := by
  have g : ∀ {a : Addr} {o : HO}, H a = some o → H' a = some o := fun e => k.get e (by simp)
  cases h with
  | base b =>
    cases b with
    | non => exact .base .non
    | bl y => exact .base (.bl y)
    | int i => exact .base (.int i)
    | str y => exact .base (.str y)
    | flt y => exact .base (.flt y)
    | lst e => exact .base (.lst (g e))
    | frz e => exact .base (.frz (g e))
    | tup e => exact .base (.tup (g e))
    | dK e => exact .base (.dK (g e))
    | dT e => exact .base (.dT (g e))
    | ins e c1 c2 c3 c4 c5 => exact .base (.ins (g e) c1 c2 c3 c4 c5)
  | byt y => exact .byt y
  | set e => exact .set (g e)
  | kList e c => exact .kList e c
  | kTuple e c => exact .kTuple e c
  | kDict e c => exact .kDict e c
  | fTuple e => exact .fTuple (g e)
  | fDict e => exact .fDict (g e)
theorem NotStr.keep {K : PySem.W.Frag} {H H' : Hp} {v : V} (h : NotStr K H v) (k : Keep [] H H') : NotStr K H' v := by
  obtain ⟨T, ty, e⟩ := h
  exact ⟨T, tyX_keep ty k, e⟩

/-! ### names and paths as lists of codes -/
def isLow (c : Nat) : Bool := decide (97 ≤ c ∧ c ≤ 122)
def nameL (l : List Nat) : Bool := decide (1 ≤ l.length ∧ l.length ≤ 8) && l.all isLow
def pathL : List Nat → Bool
  | 47 :: r => r.isEmpty || (cut1 47 [] r).all nameL
  | _ => false
theorem low_in (c : Nat) : decide (c ∈ tl "abcdefghijklmnopqrstuvwxyz") = isLow c := by
  have e : tl "abcdefghijklmnopqrstuvwxyz" = [97, 98, 99, 100, 101, 102, 103, 104, 105, 106, 107, 108, 109, 110, 111, 112, 113, 114, 115, 116, 117, 118, 119, 120, 121, 122] := by decide
  rw [e]
  refine decide_eq_decide.mpr ?_
  simp only [List.mem_cons, List.not_mem_nil, or_false]
  omega
/-- of no class that answers isinstance(.., str) -/
def NoStr (K : PySem.W.Frag) (H : Hp) (v : V) : Prop := ∃ t, TyX K H v t ∧ PySem.W.kitOne K t (.type "str") = some false
theorem NotStr.no {K : PySem.W.Frag} {H : Hp} {v : V} (h : NotStr K H v) : NoStr K H v := by
  obtain ⟨T, ty, e⟩ := h
  exact ⟨_, ty, kit_ty e⟩
theorem NoStr.keep {K : PySem.W.Frag} {H H' : Hp} {v : V} (h : NoStr K H v) (k : Keep [] H H') : NoStr K H' v := by
  obtain ⟨T, ty, e⟩ := h
  exact ⟨T, tyX_keep ty k, e⟩
theorem w_isiV {K : PySem.W.Frag} {H : Hp} {Q : VK} {x : V} {t : Value} {n : String} {b : Bool} (h : TyX K H x t) (e : PySem.W.kitOne K t (.type n) = some b) (q : Q (.bl b) H) : rIsi K [x, .ty n] H Q := ⟨x, .ty n, t, .type n, b, rfl, .ty n, h, e, q⟩
def spIsName (K : PySem.W.Frag) : Sp := fun vs H Q _ => ∃ v, vs = [v] ∧ ((∃ z, v = .str z ∧ z.length ≤ 1000000 ∧ ∀ H', Keep [] H H' → Q (.bl (nameL (tl z))) H') ∨ (NoStr K H v ∧ Q (.bl false) H))
def spIsPath (K : PySem.W.Frag) : Sp := fun vs H Q _ => ∃ v, vs = [v] ∧ ((∃ z, v = .str z ∧ z.length ≤ 1000000 ∧ ∀ H', Keep [] H H' → Q (.bl (pathL (tl z))) H') ∨ (NoStr K H v ∧ Q (.bl false) H))
def spIsList (K : PySem.W.Frag) : Sp := fun vs H Q _ => ∃ v t b, vs = [v] ∧ TyX K H v t ∧ PySem.W.kitAny K t [.type "list", .type "tuple"] = some b ∧ ∀ H', Keep [] H H' → Q (.bl b) H'
theorem isName_go {K : PySem.W.Frag} {z : Str} {H : Hp} {Q : VK} {E : XK} (hz : z.length ≤ 1000000) (q : ∀ H', Keep [] H H' → Q (.bl (nameL (tl z))) H') : spIsName K [.str z] H Q E := ⟨_, rfl, .inl ⟨z, rfl, hz, q⟩⟩
theorem isPath_go {K : PySem.W.Frag} {z : Str} {H : Hp} {Q : VK} {E : XK} (hz : z.length ≤ 1000000) (q : ∀ H', Keep [] H H' → Q (.bl (pathL (tl z))) H') : spIsPath K [.str z] H Q E := ⟨_, rfl, .inl ⟨z, rfl, hz, q⟩⟩
theorem w_all {K : PySem.W.Frag} {H : Hp} {Q : VK} {p : Addr} {bs : List Bool} (e : H p = some (.lst (bs.map V.bl))) (q : Q (.bl (bs.all id)) H) : rAll K [.ref p] H Q := ⟨p, bs, rfl, SqL.of e, q⟩
theorem w_any {K : PySem.W.Frag} {H : Hp} {Q : VK} {p : Addr} {bs : List Bool} (e : H p = some (.lst (bs.map V.bl))) (q : Q (.bl (bs.any id)) H) : rAny K [.ref p] H Q := ⟨p, bs, rfl, SqL.of e, q⟩
theorem all_id {α : Type} (f : α → Bool) (l : List α) : (l.map f).all id = l.all f := by
  rw [List.all_map]
  rfl
theorem any_id {α : Type} (f : α → Bool) (l : List α) : (l.map f).any id = l.any f := by
  rw [List.any_map]
  rfl
theorem cutS_from1 (c : Nat) (r : List Nat) : cutS (mkS (c :: r)) (some 1) none = mkS r := by
  refine TL.ext_tl ?_
  show ((c :: r).drop (HT.sIx (mkS (c :: r)).length 0 (some 1))).take (HT.sIx (mkS (c :: r)).length (mkS (c :: r)).length none - HT.sIx (mkS (c :: r)).length 0 (some 1)) = r
  have e : (mkS (c :: r)).length = r.length + 1 := rfl
  rw [e, show HT.sIx (r.length + 1) 0 (some 1) = min 1 (r.length + 1) from HT.sIx_nat _ 0 1, HT.sIx_none, show min 1 (r.length + 1) = 1 by omega]
  simp
def slash : List Nat → Bool
  | c :: _ => decide (c = 47)
  | [] => false
theorem starts_slash (z : Str) : Txt.startswith z "/" = slash (tl z) := by
  have hy : TL.tl "/" ≠ [] := by decide
  have h := TL.at_iff (x := z) (y := "/") hy 0
  have hp : TL.pre (TL.tl "/") ((TL.tl z).drop 0) = slash (tl z) := by
    show TL.pre [47] (tl z) = slash (tl z)
    cases tl z with
    | nil => rfl
    | cons c r =>
      show ([c] == [47]) = decide (c = 47)
      by_cases e : c = 47 <;> simp [e]
  rw [hp] at h
  cases hs : slash (tl z) with
  | true =>
    have := h.mpr hs
    have h1 : 0 + Str.length "/" ≤ z.length := this.1
    show (decide (0 + Str.length "/" ≤ z.length) && _) = true
    rw [decide_eq_true h1, this.2]
    rfl
  | false =>
    refine Bool.eq_false_iff.mpr fun q => ?_
    have q : (decide (0 + Str.length "/" ≤ z.length) && Builtin.Str.subAt z "/" 0) = true := q
    rw [Bool.and_eq_true] at q
    have := h.mp ⟨of_decide_eq_true q.1, q.2⟩
    rw [hs] at this
    cases this
theorem slash_cons {l : List Nat} (h : slash l = true) : ∃ r, l = 47 :: r := by
  cases l with
  | nil => cases h
  | cons c r => exact ⟨r, by rw [show c = 47 from of_decide_eq_true h]⟩
theorem path_no {l : List Nat} (h : slash l = false) : pathL l = false := by
  cases l with
  | nil => rfl
  | cons c r =>
    have hc : c ≠ 47 := of_decide_eq_false h
    unfold pathL
    split
    · rename_i h2
      simp at h2
      exact absurd h2.1 hc
    · rfl
theorem cut1_part (c : Nat) : ∀ (l acc : List Nat), ∀ x ∈ cut1 c acc l, x.length ≤ acc.length + l.length
  | [], acc, x, h => by
    have : x = acc := by simpa [cut1] using h
    rw [this]
    omega
  | d :: r, acc, x, h => by
    unfold cut1 at h
    split at h
    · rcases List.mem_cons.mp h with h | h
      · rw [h]
        omega
      · have := cut1_part c r [] x h
        simp only [List.length_nil, List.length_cons] at this ⊢
        omega
    · have := cut1_part c r (acc ++ [d]) x h
      simp only [List.length_append, List.length_cons, List.length_nil] at this ⊢
      omega
theorem Bag.out {H : Hp} {b p : Addr} {n : Nat} {o : HO} (hB : Bag H b n) (e : H p = some o) (h : ∀ x y z : Int, o ≠ .lst [.int x, .int y, .int z]) : p ∉ [b] := by
  obtain ⟨x, y, z, e2, _⟩ := hB
  intro hp
  have : p = b := by simpa using hp
  subst this
  rw [e] at e2
  exact h x y z (Option.some.inj e2)
theorem Bag.take {H H' : Hp} {b p : Addr} {n : Nat} {o : HO} (hB : Bag H b n) (k : Keep [b] H H') (e : H p = some o) (h : ∀ x y z : Int, o ≠ .lst [.int x, .int y, .int z]) : H' p = some o := k.get e (hB.out e h)
/-! things of any kind -/
def Plain (T : String) : Prop := T = "NoneType" ∨ T = "bool" ∨ T = "int" ∨ T = "list" ∨ T = "tuple" ∨ T = "dict"
def Thing (K : PySem.W.Frag) (H : Hp) (v : V) : Prop := (∃ z, v = .str z ∧ z.length ≤ 10000 ∧ Asc z) ∨ (∃ T, TyX K H v (.type T) ∧ Plain T)
theorem Thing.keep {K : PySem.W.Frag} {H H' : Hp} {v : V} (h : Thing K H v) (k : Keep [] H H') : Thing K H' v := by
  rcases h with h | ⟨T, ty, p⟩
  · exact .inl h
  · exact .inr ⟨T, tyX_keep ty k, p⟩
theorem Plain.noStr {K : PySem.W.Frag} {H : Hp} {v : V} {T : String} (p : Plain T) (ty : TyX K H v (.type T)) : NoStr K H v := by
  refine ⟨_, ty, kit_ty ?_⟩
  rcases p with rfl | rfl | rfl | rfl | rfl | rfl <;> decide +kernel
def isSeq (T : String) : Bool := T == "list" || T == "tuple"
theorem Plain.seq {K : PySem.W.Frag} {T : String} (p : Plain T) : PySem.W.kitAny K (.type T) [.type "list", .type "tuple"] = some (isSeq T) := by
  rcases p with rfl | rfl | rfl | rfl | rfl | rfl
  · exact kitAny_cons (b := false) (kit_ty (by decide +kernel)) (fun _ => kitAny_cons (b := false) (kit_ty (by decide +kernel)) (fun _ => kitAny_nil) (fun z => by cases z)) (fun z => by cases z)
  · exact kitAny_cons (b := false) (kit_ty (by decide +kernel)) (fun _ => kitAny_cons (b := false) (kit_ty (by decide +kernel)) (fun _ => kitAny_nil) (fun z => by cases z)) (fun z => by cases z)
  · exact kitAny_cons (b := false) (kit_ty (by decide +kernel)) (fun _ => kitAny_cons (b := false) (kit_ty (by decide +kernel)) (fun _ => kitAny_nil) (fun z => by cases z)) (fun z => by cases z)
  · exact kitAny_cons (b := true) (kit_ty (by decide +kernel)) (fun z => by cases z) (fun _ => rfl)
  · exact kitAny_cons (b := false) (kit_ty (by decide +kernel)) (fun _ => kitAny_cons (b := true) (kit_ty (by decide +kernel)) (fun z => by cases z) (fun _ => rfl)) (fun z => by cases z)
  · exact kitAny_cons (b := false) (kit_ty (by decide +kernel)) (fun _ => kitAny_cons (b := false) (kit_ty (by decide +kernel)) (fun _ => kitAny_nil) (fun z => by cases z)) (fun z => by cases z)
theorem str_seq {K : PySem.W.Frag} : PySem.W.kitAny K (.type "str") [.type "list", .type "tuple"] = some false :=
  kitAny_cons (b := false) (kit_ty (by decide +kernel)) (fun _ => kitAny_cons (b := false) (kit_ty (by decide +kernel)) (fun _ => kitAny_nil) (fun z => by cases z)) (fun z => by cases z)
theorem thing_str {K : PySem.W.Frag} {H : Hp} {z : Str} (h : z.length ≤ 10000) (ha : Asc z) : Thing K H (.str z) := .inl ⟨z, rfl, h, ha⟩
theorem thing_non {K : PySem.W.Frag} {H : Hp} : Thing K H .non := .inr ⟨_, .base .non, .inl rfl⟩
theorem thing_bl {K : PySem.W.Frag} {H : Hp} {b : Bool} : Thing K H (.bl b) := .inr ⟨_, .base (.bl b), .inr (.inl rfl)⟩
theorem thing_int {K : PySem.W.Frag} {H : Hp} {i : Int} : Thing K H (.int i) := .inr ⟨_, .base (.int i), .inr (.inr (.inl rfl))⟩
theorem thing_lst {K : PySem.W.Frag} {H : Hp} {p : Addr} {xs : List V} (h : H p = some (.lst xs)) : Thing K H (.ref p) := .inr ⟨_, .base (.lst h), .inr (.inr (.inr (.inl rfl)))⟩
theorem thing_tup {K : PySem.W.Frag} {H : Hp} {p : Addr} {xs : List V} (h : H p = some (.tup xs)) : Thing K H (.ref p) := .inr ⟨_, .base (.tup h), .inr (.inr (.inr (.inr (.inl rfl))))⟩
theorem thing_dK {K : PySem.W.Frag} {H : Hp} {p : Addr} {xs : List (Key × V)} (h : H p = some (.dK xs)) : Thing K H (.ref p) := .inr ⟨_, .base (.dK h), .inr (.inr (.inr (.inr (.inr rfl))))⟩
/-! orders of single signs; a list of texts against [] -/
theorem one_lt (c d : Nat) : decide (tl (mkS [c]) < tl (mkS [d])) = decide (c < d) := by
  refine decide_eq_decide.mpr ?_
  show [c] < [d] ↔ c < d
  rw [List.cons_lt_cons_iff]
  constructor
  · rintro (h | ⟨_, h⟩)
    · exact h
    · exact absurd h (List.not_lt_nil _)
  · exact fun h => .inl h
theorem eqv_strs_nil (l : List Str) : PyData.eqv (.list (l.map PyData.str)) (.list []) = l.isEmpty := by
  cases l <;> simp [PyData.eqv, PyData.eqvAll]
theorem shaped_nil : SeqAt.shaped (.list []) = true := rfl
theorem w_cat {H : Hp} {Q : VK} {p q : Addr} {xs zs : List V} (h1 : H p = some (.lst xs)) (h2 : H q = some (.lst zs)) (hl : xs.length + zs.length ≤ 16777216) (k : ∀ r, H r = none → Q (.ref r) (upd H r (.lst (xs ++ zs)))) : rCat (.ref p) (.ref q) H Q := ⟨p, q, xs, zs, rfl, rfl, h1, h2, le_line hl, k⟩
theorem w_isiT2 {K : PySem.W.Frag} {H : Hp} {Q : VK} {x : V} {t : Value} {b : Bool} {p : Addr} (e : H p = some (.tup [.ty "list", .ty "tuple"])) (h : TyX K H x t) (hk : PySem.W.kitAny K t [.type "list", .type "tuple"] = some b) (q : Q (.bl b) H) : rIsiT K [x, .ref p] H Q :=
  ⟨x, p, _, t, _, b, rfl, e, .cons (.ty _) (.cons (.ty _) .nil), h, hk, q⟩
theorem w_disp {trs : List (TE × TE)} {σ : L2.St} {H : Hp} {Q : VK} (h : ∀ p, H p = none → tPairs trs σ (upd H p (.dK [])) fun ps H2 => H2 p = some (.dK []) ∧ ∃ kvs : List (Key × V), ps = kvs.map (fun kv => (kV kv.1, kv.2)) ∧ kvs.length ≤ 15 ∧ Q (.ref p) (upd H2 p (.dK (mergeK [] kvs)))) : tDisp trs σ H Q := h
theorem w_pcons {tk tv : TE} {r : List (TE × TE)} {σ : L2.St} {H : Hp} {QP : List (V × V) → Hp → Prop} (h : tk σ H fun x H1 => tv σ H1 fun y H2 => tPairs r σ H2 fun ps H3 => QP ((x, y) :: ps) H3) : tPairs ((tk, tv) :: r) σ H QP := h
theorem w_pnil {σ : L2.St} {H : Hp} {QP : List (V × V) → Hp → Prop} (h : QP [] H) : tPairs [] σ H QP := h

/-! rules whose readings name the written part, for the inside of a comprehension -/
section
variable {X : Cx} {K : PySem.W.Frag}
theorem call_isiB (e : X.K = K) : CallR X (.builtin "isinstance") (rIsi K) := by subst e; exact call_isi
theorem call_isiTB (e : X.K = K) : CallR X (.builtin "isinstance") (rIsiT K) := by subst e; exact call_isiT
theorem ix_listB (e : X.K = K) : IxR X (rIxL K) := by subst e; exact ix_list
theorem ix_tupB (e : X.K = K) : IxR X (rIxT K) := by subst e; exact ix_tup
theorem op_in_seqB (e : X.K = K) : OpR X (compareOp .In) (rIn K false) := by subst e; exact op_in_seq
theorem op_notIn_seqB (e : X.K = K) : OpR X (compareOp .NotIn) (rIn K true) := by subst e; exact op_notIn_seq
theorem op_eqDB (e : X.K = K) (hu : X.A.units + 64 < cLine) : OpR X (compareOp .Eq) (rEqD K) := by subst e; exact op_eqD hu
theorem op_neDB (e : X.K = K) (hu : X.A.units + 64 < cLine) : OpR X (compareOp .NotEq) (rNeD K) := by subst e; exact op_neD hu
theorem cr_allB (e : X.K = K) (hc : X.calm = true) : CallR X (.builtin "all") (rAll K) := by subst e; exact cr_all hc
theorem cr_anyB (e : X.K = K) (hc : X.calm = true) : CallR X (.builtin "any") (rAny K) := by subst e; exact cr_any hc
end
theorem tyX_keepB {K : PySem.W.Frag} {H H' : Hp} {b : Addr} {n m : Nat} {x : V} {t : Value} (h : TyX K H x t) (k : Keep [b] H H') (hB : Bag H b n) (hB' : Bag H' b m) : TyX K H' x t := by
  obtain ⟨x1, y1, z1, eb, _⟩ := hB
  obtain ⟨x2, y2, z2, eb2, _⟩ := hB'
  have g : ∀ {a : Addr} {o : HO}, H a = some o → (∀ xs, o ≠ .lst xs) → H' a = some o := fun {a o} e hn => k.get e (by
    intro hp
    have : a = b := by simpa using hp
    subst this
    rw [eb] at e
    exact hn _ (Option.some.inj e).symm)
  cases h with
  | base q =>
    cases q with
    | non => exact .base .non
    | bl y => exact .base (.bl y)
    | int i => exact .base (.int i)
    | str y => exact .base (.str y)
    | flt y => exact .base (.flt y)
    | @lst a xs e =>
      by_cases ha : a = b
      · subst ha
        exact .base (.lst eb2)
      · exact .base (.lst (k.get e (by simpa using ha)))
    | frz e => exact .base (.frz (g e (by intro _ h; cases h)))
    | tup e => exact .base (.tup (g e (by intro _ h; cases h)))
    | dK e => exact .base (.dK (g e (by intro _ h; cases h)))
    | dT e => exact .base (.dT (g e (by intro _ h; cases h)))
    | ins e c1 c2 c3 c4 c5 => exact .base (.ins (g e (by intro _ h; cases h)) c1 c2 c3 c4 c5)
  | byt y => exact .byt y
  | set e => exact .set (g e (by intro _ h; cases h))
  | kList e c => exact .kList e c
  | kTuple e c => exact .kTuple e c
  | kDict e c => exact .kDict e c
  | fTuple e => exact .fTuple (g e (by intro _ h; cases h))
  | fDict e => exact .fDict (g e (by intro _ h; cases h))
theorem Thing.keepB {K : PySem.W.Frag} {H H' : Hp} {b : Addr} {n m : Nat} {v : V} (h : Thing K H v) (k : Keep [b] H H') (hB : Bag H b n) (hB' : Bag H' b m) : Thing K H' v := by
  rcases h with h | ⟨T, ty, p⟩
  · exact .inl h
  · exact .inr ⟨T, tyX_keepB ty k hB hB', p⟩
end Fr
namespace K01
open PySem PySem.Spec PyProof.Rows L2 Fr
local macro_rules | `(tactic| walk_at "st") => `(tactic| first | assumption | exact upd_same | (refine stay ?_ (by assumption); walk_at "st"))
local macro_rules | `(tactic| walk_at "sq") => `(tactic| first | assumption | (refine SqT.of ?_; walk_at "st") | (refine SqL.of ?_; walk_at "st"))
local macro_rules | `(tactic| walk_at "nb") => `(tactic| (intro _ _ _ h; cases h))
local macro_rules | `(tactic| walk_at "hp") => `(tactic| first | assumption | exact upd_same | (refine (upd_ne ?n).trans ?m; (case n => walk_at "ne"); case m => walk_at "hp"))
local macro_rules | `(tactic| walk_at "ne") => `(tactic| first | assumption | exact Ne.symm (by assumption) | exact ne_of_none (by assumption) (by assumption) | exact Ne.symm (ne_of_none (by assumption) (by assumption)))
local macro_rules | `(tactic| walk_at "s") => `(tactic| first
  | with_reducible refine w_seq ?_ | with_reducible refine w_next ?_ | with_reducible refine w_ret ?_ | with_reducible refine w_asg ?_ | with_reducible refine w_ifS ?_
  | with_reducible refine w_drop ?_ | with_reducible refine w_retN ?_ | with_reducible refine w_gname ?_ | with_reducible refine w_gsub ?_ | with_reducible refine w_par ?_
  | with_reducible refine w_op ?_ | with_reducible refine w_c ?_ | with_reducible refine w_un ?_ | with_reducible refine w_cons ?_ | with_reducible refine w_nil ?_ | with_reducible refine w_cb ?_ | with_reducible refine w_call ?_
  | ((with_reducible show tVar _ _ _ _); refine w_var rfl ?_)
  | with_reducible refine w_I0 ?_ | with_reducible refine w_U ?_ | with_reducible refine w_test ?_ | with_reducible refine w_B ?_ | with_reducible refine w_and ?_ | with_reducible refine w_or ?_ | with_reducible refine w_not ?_ | with_reducible refine w_yes ?_
  | with_reducible refine w_if ?_ | with_reducible refine w_lst ?_ | with_reducible refine w_tup ?_ | with_reducible refine w_andV ?_ | with_reducible refine w_orV ?_ | with_reducible refine w_notV ?_ | with_reducible refine w_orT ?_ | with_reducible refine w_chain ?_
  | with_reducible refine w_m1 ?_ | with_reducible refine w_isS ?_ | with_reducible refine w_bm ?_ | with_reducible refine w_bm0 ?_ | with_reducible refine w_sl ?_ | with_reducible refine w_noPart ?_ | with_reducible refine w_part ?_
  | ((with_reducible refine' w_I ?hc_I ?_); case hc_I => first | omega | exact ⟨by decide, by decide⟩ | exact Or.inl ⟨by decide, by decide⟩ | exact Or.inr ⟨by decide, by decide⟩ | (refine ⟨?_, ?_⟩ <;> omega) | (refine ⟨by decide, by decide, ?_⟩; omega) | (refine Or.inl ⟨?_, ?_⟩ <;> omega) | (refine Or.inr ⟨?_, ?_⟩ <;> omega) | decide)
  | ((with_reducible refine' w_eq ?hs_eq ?_); case hs_eq => rfl) | ((with_reducible refine' w_ne ?hs_ne ?_); case hs_ne => rfl)
  | ((with_reducible refine' w_ixL ?h_ix ?ha_ix ?_); (case h_ix => walk_at "hp"); case ha_ix => first | rfl | exact at_head)
  | ((with_reducible refine' w_ixLS ?h_ix ?ha_ix ?_); (case h_ix => walk_at "sq"); case ha_ix => first | rfl | exact at_head)
  | ((with_reducible refine' w_setL ?h_ix ?ha_ix ?_); (case h_ix => walk_at "hp"); case ha_ix => first | rfl | exact at_head)
  | ((with_reducible refine' w_ixT ?h_ix ?ha_ix ?_); (case h_ix => walk_at "sq"); case ha_ix => first | rfl | exact at_head)
  | ((with_reducible refine' w_aug ?h_var ?_); case h_var => rfl) | with_reducible refine w_ipI ?_
  | ((with_reducible show gTup _ _ _ _ _ _ _); refine' w_gtup (SqT.of ?h_ix) ?ha_ix ?_; (case h_ix => walk_at "st"); (case ha_ix => rfl)) | with_reducible refine w_gcons ?_ | with_reducible refine w_gnil ?_
  | ((with_reducible refine' w_tyL ?h_ix ?_); case h_ix => walk_at "hp")
  | with_reducible refine iteT ?_ | with_reducible refine iteF ?_ | with_reducible refine w_nT ?_ | with_reducible refine w_nF ?_ | with_reducible refine w_callZ ?_
  | ((with_reducible refine' w_addT ?h_add ?_); case h_add => ((try simp only [app_len, mkS_len, List.length_cons, List.length_nil]); omega)) | ((with_reducible refine' w_slS ?h_add ?_); case h_add => exact le_line (by (try simp only [app_len, mkS_len, List.length_cons, List.length_nil]); omega))
  | with_reducible refine w_dnewK ?_ | with_reducible refine w_disp ?_ | with_reducible refine w_pcons ?_ | with_reducible refine w_pnil ?_
  | with_reducible refine w_for ?_ | with_reducible refine w_lc ?_ | with_reducible refine w_iStr ?_ | with_reducible refine w_iList ?_ | with_reducible refine w_iTup ?_ | with_reducible refine w_iRng1 ?_
  | ((with_reducible show _ ≤ sizeLine ∧ _); refine ⟨le_line (by first | omega | exact Nat.le_of_ble_eq_true rfl | decide), ?_⟩)
  | with_reducible refine ⟨_, rfl, ?_⟩ | with_reducible refine ⟨_, _, rfl, ?_⟩ | with_reducible refine ⟨rfl, ?_⟩)
local macro_rules | `(tactic| walk_at "ss") => `(tactic| repeat walk_at "s")
def topS (i : Nat) : Stmt := PySem.Challenge.pw_filerights_k01_integers_names_paths.main.body.getD i (.Pass ⟨0, 0, 0, 0⟩)
abbrev s_is_integer : Stmt := topS 4
abbrev N_is_integer : List Str := ["value", "low", "high"]
theorem sc_is_integer : FnScope N_is_integer ["value", "low", "high"] (defScope s_is_integer) := ⟨rfl, rfl, rfl, by decide +kernel, rfl, by decide +kernel, by decide +kernel⟩
abbrev s_is_name : Stmt := topS 5
abbrev N_is_name : List Str := ["value", "sign"]
theorem sc_is_name : FnScope N_is_name ["value"] (defScope s_is_name) := ⟨rfl, rfl, rfl, by decide +kernel, rfl, by decide +kernel, by decide +kernel⟩
abbrev s_is_list : Stmt := topS 6
abbrev N_is_list : List Str := ["value"]
theorem sc_is_list : FnScope N_is_list ["value"] (defScope s_is_list) := ⟨rfl, rfl, rfl, by decide +kernel, rfl, by decide +kernel, by decide +kernel⟩
abbrev s_is_path : Stmt := topS 7
abbrev N_is_path : List Str := ["value", "name"]
theorem sc_is_path : FnScope N_is_path ["value"] (defScope s_is_path) := ⟨rfl, rfl, rfl, by decide +kernel, rfl, by decide +kernel, by decide +kernel⟩
abbrev s_law_cell : Stmt := topS 9
abbrev N_law_cell : List Str := ["_law_script", "_law_k"]
theorem sc_law_cell : FnScope N_law_cell ["_law_script", "_law_k"] (defScope s_law_cell) := ⟨rfl, rfl, rfl, by decide +kernel, rfl, by decide +kernel, by decide +kernel⟩
abbrev s_law_bag : Stmt := topS 10
abbrev N_law_bag : List Str := ["_law_number"]
theorem sc_law_bag : FnScope N_law_bag ["_law_number"] (defScope s_law_bag) := ⟨rfl, rfl, rfl, by decide +kernel, rfl, by decide +kernel, by decide +kernel⟩
abbrev s_law_take : Stmt := topS 11
abbrev N_law_take : List Str := ["_law_bag_here", "_law_count", "_law_digit", "_law_mixed"]
theorem sc_law_take : FnScope N_law_take ["_law_bag_here", "_law_count"] (defScope s_law_take) := ⟨rfl, rfl, rfl, by decide +kernel, rfl, by decide +kernel, by decide +kernel⟩
abbrev s_law_word : Stmt := topS 12
abbrev N_law_word : List Str := ["_law_bag_here", "_law_clean", "_law_letters", "_law_found", "_law_k", "_law_at", "_law_signs", "_law_sign"]
theorem sc_law_word : FnScope N_law_word ["_law_bag_here", "_law_clean"] (defScope s_law_word) := ⟨rfl, rfl, rfl, by decide +kernel, rfl, by decide +kernel, by decide +kernel⟩
abbrev s_law_is_word : Stmt := topS 13
abbrev N_law_is_word : List Str := ["_law_thing", "_law_sign"]
theorem sc_law_is_word : FnScope N_law_is_word ["_law_thing"] (defScope s_law_is_word) := ⟨rfl, rfl, rfl, by decide +kernel, rfl, by decide +kernel, by decide +kernel⟩
abbrev s_law_path : Stmt := topS 14
abbrev N_law_path : List Str := ["_law_bag_here", "_law_clean", "_law_many", "_law_names", "_law_k", "_law_found", "_law_way", "_law_at"]
theorem sc_law_path : FnScope N_law_path ["_law_bag_here"] (defScope s_law_path) := ⟨rfl, rfl, rfl, by decide +kernel, rfl, by decide +kernel, by decide +kernel⟩
abbrev s_law_is_path : Stmt := topS 15
abbrev N_law_is_path : List Str := ["_law_thing", "_law_word_here", "_law_words", "_law_sign", "_law_one"]
theorem sc_law_is_path : FnScope N_law_is_path ["_law_thing"] (defScope s_law_is_path) := ⟨rfl, rfl, rfl, by decide +kernel, rfl, by decide +kernel, by decide +kernel⟩
abbrev s_law_any : Stmt := topS 16
abbrev N_law_any : List Str := ["_law_bag_here", "_law_text", "_law_some"]
theorem sc_law_any : FnScope N_law_any ["_law_bag_here", "_law_text"] (defScope s_law_any) := ⟨rfl, rfl, rfl, by decide +kernel, rfl, by decide +kernel, by decide +kernel⟩
abbrev s_law_integers_right : Stmt := topS 17
abbrev N_law_integers_right : List Str := ["_law_bag_here", "_law_some", "_law_floor", "_law_top", "_law_things", "_law_thing", "_law_expected", "_law_found"]
theorem sc_law_integers_right : FnScope N_law_integers_right ["_law_bag_here"] (defScope s_law_integers_right) := ⟨rfl, rfl, rfl, by decide +kernel, rfl, by decide +kernel, by decide +kernel⟩
abbrev s_law : Stmt := topS 18
abbrev N_law : List Str := ["_law_script", "_law_k", "_law_bag_here", "_law_word_here", "_law_path_here", "_law_thing", "_law_found", "_law_expected", "_law_one"]
theorem sc_law : FnScope N_law ["_law_script"] (defScope s_law) := ⟨rfl, rfl, rfl, by decide +kernel, rfl, by decide +kernel, by decide +kernel⟩
abbrev D_is_integer (K : PySem.W.Frag) (fd : FuncData) : Prop := FunD K "is_integer" "is_integer" (defArgs s_is_integer) (defBody s_is_integer) (defScope s_is_integer) [] [] (He.ga K "is_integer") fd
theorem bN_is_integer {K : PySem.W.Frag} {fd : FuncData} (F : D_is_integer K fd) : Binds K fd ["value", "low", "high"] [] := F.bindsN fun _ _ _ _ _ _ us hl => match us, hl with | [_, _, _], _ => rfl
abbrev D_is_name (K : PySem.W.Frag) (fd : FuncData) : Prop := FunD K "is_name" "is_name" (defArgs s_is_name) (defBody s_is_name) (defScope s_is_name) [] [] (He.ga K "is_name") fd
theorem bN_is_name {K : PySem.W.Frag} {fd : FuncData} (F : D_is_name K fd) : Binds K fd ["value"] [] := F.bindsN fun _ _ _ _ _ _ us hl => match us, hl with | [_], _ => rfl
abbrev D_is_list (K : PySem.W.Frag) (fd : FuncData) : Prop := FunD K "is_list" "is_list" (defArgs s_is_list) (defBody s_is_list) (defScope s_is_list) [] [] (He.ga K "is_list") fd
theorem bN_is_list {K : PySem.W.Frag} {fd : FuncData} (F : D_is_list K fd) : Binds K fd ["value"] [] := F.bindsN fun _ _ _ _ _ _ us hl => match us, hl with | [_], _ => rfl
abbrev D_is_path (K : PySem.W.Frag) (fd : FuncData) : Prop := FunD K "is_path" "is_path" (defArgs s_is_path) (defBody s_is_path) (defScope s_is_path) [] [] (He.ga K "is_path") fd
theorem bN_is_path {K : PySem.W.Frag} {fd : FuncData} (F : D_is_path K fd) : Binds K fd ["value"] [] := F.bindsN fun _ _ _ _ _ _ us hl => match us, hl with | [_], _ => rfl
abbrev D_law_cell (K : PySem.W.Frag) (fd : FuncData) : Prop := FunD K "_law_cell" "_law_cell" (defArgs s_law_cell) (defBody s_law_cell) (defScope s_law_cell) [] [] (He.ga K "_law_cell") fd
theorem bN_law_cell {K : PySem.W.Frag} {fd : FuncData} (F : D_law_cell K fd) : Binds K fd ["_law_script", "_law_k"] [] := F.bindsN fun _ _ _ _ _ _ us hl => match us, hl with | [_, _], _ => rfl
abbrev D_law_bag (K : PySem.W.Frag) (fd : FuncData) : Prop := FunD K "_law_bag" "_law_bag" (defArgs s_law_bag) (defBody s_law_bag) (defScope s_law_bag) [] [] (He.ga K "_law_bag") fd
theorem bN_law_bag {K : PySem.W.Frag} {fd : FuncData} (F : D_law_bag K fd) : Binds K fd ["_law_number"] [] := F.bindsN fun _ _ _ _ _ _ us hl => match us, hl with | [_], _ => rfl
abbrev D_law_take (K : PySem.W.Frag) (fd : FuncData) : Prop := FunD K "_law_take" "_law_take" (defArgs s_law_take) (defBody s_law_take) (defScope s_law_take) [] [] (He.ga K "_law_take") fd
theorem bN_law_take {K : PySem.W.Frag} {fd : FuncData} (F : D_law_take K fd) : Binds K fd ["_law_bag_here", "_law_count"] [] := F.bindsN fun _ _ _ _ _ _ us hl => match us, hl with | [_, _], _ => rfl
abbrev D_law_word (K : PySem.W.Frag) (fd : FuncData) : Prop := FunD K "_law_word" "_law_word" (defArgs s_law_word) (defBody s_law_word) (defScope s_law_word) [] [] (He.ga K "_law_word") fd
theorem bN_law_word {K : PySem.W.Frag} {fd : FuncData} (F : D_law_word K fd) : Binds K fd ["_law_bag_here", "_law_clean"] [] := F.bindsN fun _ _ _ _ _ _ us hl => match us, hl with | [_, _], _ => rfl
abbrev D_law_is_word (K : PySem.W.Frag) (fd : FuncData) : Prop := FunD K "_law_is_word" "_law_is_word" (defArgs s_law_is_word) (defBody s_law_is_word) (defScope s_law_is_word) [] [] (He.ga K "_law_is_word") fd
theorem bN_law_is_word {K : PySem.W.Frag} {fd : FuncData} (F : D_law_is_word K fd) : Binds K fd ["_law_thing"] [] := F.bindsN fun _ _ _ _ _ _ us hl => match us, hl with | [_], _ => rfl
abbrev D_law_path (K : PySem.W.Frag) (fd : FuncData) : Prop := FunD K "_law_path" "_law_path" (defArgs s_law_path) (defBody s_law_path) (defScope s_law_path) [] [] (He.ga K "_law_path") fd
theorem bN_law_path {K : PySem.W.Frag} {fd : FuncData} (F : D_law_path K fd) : Binds K fd ["_law_bag_here"] [] := F.bindsN fun _ _ _ _ _ _ us hl => match us, hl with | [_], _ => rfl
abbrev D_law_is_path (K : PySem.W.Frag) (fd : FuncData) : Prop := FunD K "_law_is_path" "_law_is_path" (defArgs s_law_is_path) (defBody s_law_is_path) (defScope s_law_is_path) [] [] (He.ga K "_law_is_path") fd
theorem bN_law_is_path {K : PySem.W.Frag} {fd : FuncData} (F : D_law_is_path K fd) : Binds K fd ["_law_thing"] [] := F.bindsN fun _ _ _ _ _ _ us hl => match us, hl with | [_], _ => rfl
abbrev D_law_any (K : PySem.W.Frag) (fd : FuncData) : Prop := FunD K "_law_any" "_law_any" (defArgs s_law_any) (defBody s_law_any) (defScope s_law_any) [] [] (He.ga K "_law_any") fd
theorem bN_law_any {K : PySem.W.Frag} {fd : FuncData} (F : D_law_any K fd) : Binds K fd ["_law_bag_here", "_law_text"] [] := F.bindsN fun _ _ _ _ _ _ us hl => match us, hl with | [_, _], _ => rfl
abbrev D_law_integers_right (K : PySem.W.Frag) (fd : FuncData) : Prop := FunD K "_law_integers_right" "_law_integers_right" (defArgs s_law_integers_right) (defBody s_law_integers_right) (defScope s_law_integers_right) [] [] (He.ga K "_law_integers_right") fd
theorem bN_law_integers_right {K : PySem.W.Frag} {fd : FuncData} (F : D_law_integers_right K fd) : Binds K fd ["_law_bag_here"] [] := F.bindsN fun _ _ _ _ _ _ us hl => match us, hl with | [_], _ => rfl
abbrev D_law (K : PySem.W.Frag) (fd : FuncData) : Prop := FunD K "law" "law" (defArgs s_law) (defBody s_law) (defScope s_law) [] [] (He.ga K "law") fd
theorem bN_law {K : PySem.W.Frag} {fd : FuncData} (F : D_law K fd) : Binds K fd ["_law_script"] [] := F.bindsN fun _ _ _ _ _ _ us hl => match us, hl with | [_], _ => rfl
theorem bK0_is_integer {K : PySem.W.Frag} {fd : FuncData} (F : D_is_integer K fd) : KbD K fd ["value", "low", "high"] 0 ["high", "low", "value"] [] [2, 1, 0] := kbD0 F fun _ _ _ _ _ _ us ws h1 h2 => match us, ws, h1, h2 with | [], [_, _, _], _, _ => rfl
theorem bK1_is_list {K : PySem.W.Frag} {fd : FuncData} (F : D_is_list K fd) : KbD K fd ["value"] 0 ["value"] [] [0] := kbD0 F fun _ _ _ _ _ _ us ws h1 h2 => match us, ws, h1, h2 with | [], [_], _, _ => rfl
theorem bK2_is_path {K : PySem.W.Frag} {fd : FuncData} (F : D_is_path K fd) : KbD K fd ["value"] 0 ["value"] [] [0] := kbD0 F fun _ _ _ _ _ _ us ws h1 h2 => match us, ws, h1, h2 with | [], [_], _, _ => rfl
theorem bK3_is_name {K : PySem.W.Frag} {fd : FuncData} (F : D_is_name K fd) : KbD K fd ["value"] 0 ["value"] [] [0] := kbD0 F fun _ _ _ _ _ _ us ws h1 h2 => match us, ws, h1, h2 with | [], [_], _, _ => rfl
structure Txt (K : PySem.W.Frag) (mg : Str → Option Value) : Prop where
  m_all : mg "all" = none
  m_bool : mg "bool" = none
  m_int : mg "int" = none
  m_isinstance : mg "isinstance" = none
  m_len : mg "len" = none
  m_list : mg "list" = none
  m_max : mg "max" = none
  m_min : mg "min" = none
  m_range : mg "range" = none
  m_str : mg "str" = none
  m_tuple : mg "tuple" = none
  m_is_integer : mg "is_integer" = some (.ref (He.ga K "is_integer"))
  m_is_name : mg "is_name" = some (.ref (He.ga K "is_name"))
  m_is_list : mg "is_list" = some (.ref (He.ga K "is_list"))
  m_is_path : mg "is_path" = some (.ref (He.ga K "is_path"))
  m_law_cell : mg "_law_cell" = some (.ref (He.ga K "_law_cell"))
  m_law_bag : mg "_law_bag" = some (.ref (He.ga K "_law_bag"))
  m_law_take : mg "_law_take" = some (.ref (He.ga K "_law_take"))
  m_law_word : mg "_law_word" = some (.ref (He.ga K "_law_word"))
  m_law_is_word : mg "_law_is_word" = some (.ref (He.ga K "_law_is_word"))
  m_law_path : mg "_law_path" = some (.ref (He.ga K "_law_path"))
  m_law_is_path : mg "_law_is_path" = some (.ref (He.ga K "_law_is_path"))
  m_law_any : mg "_law_any" = some (.ref (He.ga K "_law_any"))
  m_law_integers_right : mg "_law_integers_right" = some (.ref (He.ga K "_law_integers_right"))
  m_law : mg "law" = some (.ref (He.ga K "law"))
  F_is_integer : D_is_integer K (fdOf K (He.ga K "is_integer"))
  F_is_name : D_is_name K (fdOf K (He.ga K "is_name"))
  F_is_list : D_is_list K (fdOf K (He.ga K "is_list"))
  F_is_path : D_is_path K (fdOf K (He.ga K "is_path"))
  F_law_cell : D_law_cell K (fdOf K (He.ga K "_law_cell"))
  F_law_bag : D_law_bag K (fdOf K (He.ga K "_law_bag"))
  F_law_take : D_law_take K (fdOf K (He.ga K "_law_take"))
  F_law_word : D_law_word K (fdOf K (He.ga K "_law_word"))
  F_law_is_word : D_law_is_word K (fdOf K (He.ga K "_law_is_word"))
  F_law_path : D_law_path K (fdOf K (He.ga K "_law_path"))
  F_law_is_path : D_law_is_path K (fdOf K (He.ga K "_law_is_path"))
  F_law_any : D_law_any K (fdOf K (He.ga K "_law_any"))
  F_law_integers_right : D_law_integers_right K (fdOf K (He.ga K "_law_integers_right"))
  F_law : D_law K (fdOf K (He.ga K "law"))
  c_MOST_LETTERS : ∃ t, mg "MOST_LETTERS" = some (.int (8) t)
  c_LETTERS : ∃ t, mg "LETTERS" = some (.str "abcdefghijklmnopqrstuvwxyz" t)
  c_GROUND : ∃ t, mg "GROUND" = some (.str "/" t)
section
variable {P : Program} {w : World} {K : PySem.W.Frag} {mg : Str → Option Value} {base : Heap}
def spLaw (K : PySem.W.Frag) : Sp := fun vs H Q _ => ∃ (a : Addr) (ns : List Int), vs = [.ref a] ∧ SqL K H a (ns.map V.int) ∧ ns.length ≤ 63 ∧ ∀ H', Q (.bl true) H'
theorem ok_law_take (T : Txt K mg) : FnOk P w K mg base CX0 1 (He.ga K "_law_take") (fdOf K (He.ga K "_law_take")) ["_law_bag_here", "_law_count"] (spTake) := by
  refine T.F_law_take.ok sc_law_take (fun vs H Q E h => ?len) (fun cdv A outer s H vs Q E hr h => ?body)
  case len =>
    obtain ⟨b, m, n, rfl, _⟩ := h
    rfl
  case body =>
    obtain ⟨b, m, n, rfl, hm0, hm1, ⟨x, y, z, hb, hx, hy0, hy1, hz0, hz1⟩, hn, q⟩ := h
    have nd := sc_law_take.nd
    have hu := hu_of hr
    refine ⟨_, PSs.nox (pss_cons (ps_if (pt_cmpR op_gt (pe_ix ix_list (pv 0) pe_int (fun _ _ => rfl)) pe_int (nomark _))
        (pss_cons (ps_set (i := 2) nd rfl (Or.inl rfl) (pe_op op_mod (pe_ix ix_list (pv 0) pe_int (fun _ _ => rfl)) (pv 1)))
        (pss_cons (ps_asg (pe_op op_fdiv (pe_ix ix_list (pv 0) pe_int (fun _ _ => rfl)) (pv 1)) (pg_sub (pv 0) pe_int set_list))
        (pss_one (ps_ret (pv 2)))))
        (pss_nil))
      (pss_cons (ps_asg (pe_op op_add (pe_ix ix_list (pv 0) pe_int (fun _ _ => rfl)) pe_int) (pg_sub (pv 0) pe_int set_list))
      (pss_cons (ps_set (i := 3) nd rfl (Or.inl rfl) (pe_op op_mod (pe_op op_pow (pe_op op_add (pe_op op_add (pe_ix ix_list (pv 0) pe_int (fun _ _ => rfl)) (pe_op op_mul pe_int (pe_ix ix_list (pv 0) pe_int (fun _ _ => rfl)))) pe_int) pe_int) pe_int))
      (pss_cons (ps_set (i := 3) nd rfl (Or.inl rfl) (pe_op op_mod (pe_op op_pow (pe_op op_add (pv 3) (pe_op op_mul pe_int (pe_ix ix_list (pv 0) pe_int (fun _ _ => rfl)))) pe_int) pe_int))
      (pss_one (ps_ret (pe_op op_mod (pe_op op_fdiv (pv 3) pe_int) (pv 1)))))))), ?_⟩
    walk_at "ss"
    refine w_ite (fun hpos => ?_) (fun hpos => ?_)
    · walk_at "ss"
      exact q _ _ (Int.emod_nonneg _ (by omega)) (Int.emod_lt_of_pos _ hm0) (Keep.set (by simp)) ⟨x / m, y, z, upd_same, Int.ediv_nonneg hx (by omega), hy0, hy1, hz0, by omega⟩
    · walk_at "ss"
      exact q _ _ (Int.emod_nonneg _ (by omega)) (Int.emod_lt_of_pos _ hm0) (Keep.set (by simp)) ⟨x, y, z + 1, upd_same, hx, hy0, hy1, by omega, by omega⟩
theorem ok_law_cell (T : Txt K mg) : FnOk P w K mg base CX0 1 (He.ga K "_law_cell") (fdOf K (He.ga K "_law_cell")) ["_law_script", "_law_k"] (spCell K) := by
  refine T.F_law_cell.ok sc_law_cell (fun vs H Q E h => ?len) (fun cdv A outer s H vs Q E hr h => ?body)
  case len =>
    obtain ⟨a, ns, k, rfl, _⟩ := h
    rfl
  case body =>
    obtain ⟨a, ns, k, rfl, hS, hk, q⟩ := h
    have nd := sc_law_cell.nd
    have hu := hu_of hr
    refine ⟨_, PSs.nox (pss_cons (ps_if (pt_cmpR op_lt (pv 1) (pe_callB call_len_seq (by rfl) T.m_len PySem.boot_len (pa_cons (pv 0) pa_nil)) (nomark _))
        (pss_one (ps_ret (pe_ix ix_list (pv 0) (pv 1) (fun _ _ => rfl))))
        (pss_nil))
      (pss_one (ps_ret (pe_op op_add (pe_op op_mul pe_int (pv 1)) pe_int)))), ?_⟩
    walk_at "ss"
    refine ⟨a, ns.map V.int, rfl, .inl hS, ?_⟩
    walk_at "ss"
    refine w_ite (fun hlt => ?_) (fun hlt => ?_)
    · rw [len_ints] at hlt
      walk_at "ss"
      exact w_ixLS hS (at_ints (by omega)) (q _)
    · walk_at "ss"
      exact q _
theorem ok_law_bag (T : Txt K mg) : FnOk P w K mg base CX0 1 (He.ga K "_law_bag") (fdOf K (He.ga K "_law_bag")) ["_law_number"] (spBag) := by
  refine T.F_law_bag.ok sc_law_bag (fun vs H Q E h => ?len) (fun cdv A outer s H vs Q E hr h => ?body)
  case len =>
    obtain ⟨n, rfl, _⟩ := h
    rfl
  case body =>
    obtain ⟨n, rfl, q⟩ := h
    have nd := sc_law_bag.nd
    have hu := hu_of hr
    refine ⟨_, PSs.nox (pss_one (ps_ret (pe_lst (pa_cons (pe_callB (call_max2 rfl) (by rfl) T.m_max (by decide +kernel) (pa_cons pe_int (pa_cons (pe_op op_sub (pv 0) (pe_op op_pow pe_int pe_int)) pa_nil))) (pa_cons (pe_op op_mod (pv 0) pe_int) (pa_cons pe_int pa_nil)))))), ?_⟩
    walk_at "ss"
    refine fun p hp => q p _ hp ?_
    refine ⟨_, _, 0, upd_same, ?_, Int.emod_nonneg _ (by decide), Int.lt_of_lt_of_le (Int.emod_lt_of_pos _ (by decide)) (by decide), by decide, by decide⟩
    split <;> omega
theorem ok_is_name (T : Txt K mg) : FnOk P w K mg base CX0 1 (He.ga K "is_name") (fdOf K (He.ga K "is_name")) ["value"] (spIsName K) := by
  refine T.F_is_name.ok sc_is_name (fun vs H Q E h => ?len) (fun cdv A outer s H vs Q E hr h => ?body)
  case len =>
    obtain ⟨v, rfl, _⟩ := h
    rfl
  case body =>
    obtain ⟨v, rfl, h⟩ := h
    obtain ⟨tk_LETTERS, c_LETTERS⟩ := T.c_LETTERS
    obtain ⟨tk_MOST_LETTERS, c_MOST_LETTERS⟩ := T.c_MOST_LETTERS
    have nd := sc_is_name.nd
    have hu := hu_of hr
    refine ⟨_, PSs.nox (pss_cons (ps_if (PW.pt (pw_or (pt_not (pt_val (pe_callB call_isi (by rfl) T.m_isinstance (by decide +kernel) (pa_cons (pv 0) (pa_cons (pe_bltn (v := .ty "str") (by rfl) T.m_str (by decide +kernel) rfl) pa_nil))))) (pw_or1 (pt_not (pt_chain op_le op_le pe_int (pe_callB call_len_str (by rfl) T.m_len PySem.boot_len (pa_cons (pv 0) pa_nil)) (pe_glob (v := .int (8)) rfl c_MOST_LETTERS ⟨_, rfl⟩))))))
        (pss_one (ps_ret (pe_bl)))
        (pss_nil))
      (pss_one (ps_ret (pe_callB (cr_all rfl) (by rfl) T.m_all (by decide +kernel) (pa_cons (pe_lc (own := [("sign", 1)]) (g := gName 1) rfl nd (pi_str (pv 0)) (blkOk_by (own := [("sign", 1)]) (N := N_is_name) (sc := defScope s_is_name) (by decide +kernel)) (fun _ _ _ _ _ => pg_name (i := 1) nd rfl (Or.inl rfl)) (fun _ _ _ _ _ => pts_nil) (fun _ _ _ _ _ => pe_cmpR op_in_sign (pv 1) (pe_glob (v := .str "abcdefghijklmnopqrstuvwxyz") rfl c_LETTERS ⟨_, rfl⟩) (by rfl))) pa_nil))))), ?_⟩
    walk_at "ss"
    rcases h with ⟨z, rfl, hz, q⟩ | ⟨⟨T, ty, hT⟩, q⟩
    · have hlen := len_tl z
      refine w_isi (.base (.str z)) (b := true) (by decide +kernel) ?_
      walk_at "ss"
      refine w_ite (fun e1 => ?_) (fun e1 => ?_)
      · walk_at "ss"
        refine w_iteN (fun e2 => ?_) (fun e2 => ?_)
        · walk_at "ss"
          have := q H (Keep.refl H)
          rw [show nameL (tl z) = false by unfold nameL; rw [decide_eq_false (by omega)]; rfl] at this
          exact this
        · walk_at "ss"
          intro p hp
          refine lc_text (fun i acc H' => Hold (Keep [] H H' ∧ acc = (((tl z).take i).map isLow).map V.bl)) ?_ ?_ ?_
          · exact ⟨Keep.new hp, rfl⟩
          · rintro i acc c H1 hc ⟨k1, ha1⟩ e3
            have hi := (List.getElem?_eq_some_iff.mp hc).1
            walk_at "ss"
            refine ⟨c, _, rfl, rfl, ?_⟩
            rw [low_in]
            refine ⟨acc, e3, lt_line ?_, _, upd_same, k1.updNew hp, ?_⟩
            · rw [ha1, List.length_map, List.length_map, List.length_take]
              omega
            · rw [ha1, take_snoc hc, List.map_append, List.map_append]
              rfl
          rintro acc H1 ⟨k1, ha1⟩ e3
          rw [List.take_length] at ha1
          subst ha1
          walk_at "ss"
          refine w_all e3 ?_
          rw [all_id]
          have := q _ k1
          rw [show nameL (tl z) = (tl z).all isLow by unfold nameL; rw [decide_eq_true (by omega)]; rfl] at this
          exact this
      · walk_at "ss"
        have := q H (Keep.refl H)
        rw [show nameL (tl z) = false by unfold nameL; rw [decide_eq_false (by omega)]; rfl] at this
        exact this
    · refine w_isiV ty hT ?_
      walk_at "ss"
      exact q
theorem ok_is_path (T : Txt K mg) : FnOk P w K mg base CX0 2 (He.ga K "is_path") (fdOf K (He.ga K "is_path")) ["value"] (spIsPath K) := by
  refine T.F_is_path.ok sc_is_path (fun vs H Q E h => ?len) (fun cdv A outer s H vs Q E hr h => ?body)
  case len =>
    obtain ⟨v, rfl, _⟩ := h
    rfl
  case body =>
    obtain ⟨v, rfl, h⟩ := h
    obtain ⟨tk_GROUND, c_GROUND⟩ := T.c_GROUND
    have nd := sc_is_path.nd
    have hu := hu_of hr
    refine ⟨_, PSs.nox (pss_cons (ps_if (PW.pt (pw_or (pt_not (pt_val (pe_callB call_isi (by rfl) T.m_isinstance (by decide +kernel) (pa_cons (pv 0) (pa_cons (pe_bltn (v := .ty "str") (by rfl) T.m_str (by decide +kernel) rfl) pa_nil))))) (pw_or1 (pt_not (pt_val (pe_m1 PySem.F.slot_str_startswith PySem.F.type_str_startswith mt_startswith (pv 0) (pe_glob (v := .str "/") rfl c_GROUND ⟨_, rfl⟩)))))))
        (pss_one (ps_ret (pe_bl)))
        (pss_nil))
      (pss_one (ps_ret (pe_or (pe_cmpR op_eq (pv 0) (pe_glob (v := .str "/") rfl c_GROUND ⟨_, rfl⟩) (nomark _)) (pe_one (pe_callB (cr_all rfl) (by rfl) T.m_all (by decide +kernel) (pa_cons (pe_lc (own := [("name", 1)]) (g := gName 1) rfl nd (pi_list (pe_split (pe_slice sl_str (pv 0) (po_some pe_int) po_none) (pe_glob (v := .str "/") rfl c_GROUND ⟨_, rfl⟩))) (blkOk_by (own := [("name", 1)]) (N := N_is_path) (sc := defScope s_is_path) (by decide +kernel)) (fun _ _ _ _ _ => pg_name (i := 1) nd rfl (Or.inl rfl)) (fun _ _ _ _ _ => pts_nil) (fun _ _ _ _ _ => pe_call (ok_is_name T) (hr.mono (by decide)) (by rfl) T.m_is_name T.F_is_name.kp (bN_is_name T.F_is_name) .nil pass0 (pa_cons (pv 1) pa_nil))) pa_nil))))))), ?_⟩
    walk_at "ss"
    rcases h with ⟨z, rfl, hz, q⟩ | ⟨⟨T, ty, hT⟩, q⟩
    · have hlen := len_tl z
      refine w_isi (.base (.str z)) (b := true) (by decide +kernel) ?_
      walk_at "ss"
      refine ⟨z, _, rfl, rfl, ?_⟩
      rw [starts_slash]
      cases hsl : slash (tl z) with
      | false =>
        walk_at "ss"
        have := q H (Keep.refl H)
        rw [path_no hsl] at this
        exact this
      | true =>
        obtain ⟨r, hr⟩ := slash_cons hsl
        have ez : z = mkS (47 :: r) := by rw [← hr, mkS_tl]
        subst ez
        rw [hr] at hlen
        have hrl : r.length + 1 ≤ 1000000 := hz
        walk_at "ss"
        refine w_itb (fun e => ?_) (fun e => ?_)
        · have e : (47 :: r) = [47] := mkS_inj (V.str.inj (of_decide_eq_true e))
          have : r = [] := by simpa using e
          subst this
          exact q H (Keep.refl H)
        have hne : r.isEmpty = false := by
          cases r with
          | nil => exact absurd (of_decide_eq_false e) (fun z => z rfl)
          | cons c r => rfl
        walk_at "ss"
        rw [cutS_from1]
        refine ⟨mkS r, mkS [47], rfl, rfl, rfl, by rw [sizeLine_eq]; show r.length + 2 ≤ _; omega, fun p hp => ?_⟩
        rw [split_cut1 _ (by decide)]
        have hcl := cut1_len 47 r []
        walk_at "ss"
        refine ⟨⟨_, SqL.of upd_same⟩, fun p2 hp2 => ?_⟩
        have hwl : ∀ x ∈ cut1 47 [] (tl (mkS r)), x.length ≤ r.length := fun x hx => by
          have := cut1_part 47 r [] x hx
          simpa using this
        refine lc_lst (xs := ((cut1 47 [] (tl (mkS r))).map mkS).map V.str) (fun i acc H' => Hold (Keep [] (upd H p (.lst (((cut1 47 [] (tl (mkS r))).map mkS).map V.str))) H' ∧ acc = (((cut1 47 [] (tl (mkS r))).take i).map nameL).map V.bl)) ?_ ?_ ?_ ?_
        · exact ⟨Keep.new hp2, rfl⟩
        · rintro i acc H1 _ ⟨k1, _⟩ _
          exact SqL.of (k1.get upd_same (by simp))
        · rintro i acc x H1 hx ⟨k1, ha1⟩ e1
          rw [List.map_map, List.getElem?_map] at hx
          obtain ⟨w, hw, rfl⟩ := Option.map_eq_some_iff.mp hx
          have hi := (List.getElem?_eq_some_iff.mp hw).1
          walk_at "ss"
          refine isName_go (z := mkS w) (by have := hwl w (List.mem_of_getElem? hw); rw [mkS_len]; omega) fun H2 k2 => ?_
          refine ⟨acc, k2.get e1 (by simp), lt_line ?_, _, upd_same, (k1.trans k2).updNew hp2, ?_⟩
          · rw [ha1, List.length_map, List.length_map, List.length_take]
            have : (cut1 47 [] (tl (mkS r))).length ≤ r.length + 1 := hcl
            omega
          · rw [ha1, take_snoc hw, List.map_append, List.map_append]
            rfl
        rintro acc H1 ⟨k1, ha1⟩ e1
        rw [List.length_map, List.length_map, List.take_length] at ha1
        subst ha1
        walk_at "ss"
        refine w_all e1 ?_
        rw [all_id]
        have := q _ ((Keep.new hp).trans k1)
        rw [show pathL (tl (mkS (47 :: r))) = (cut1 47 [] (tl (mkS r))).all nameL by show (r.isEmpty || _) = _; rw [hne]; rfl] at this
        exact this
    · refine w_isiV ty hT ?_
      walk_at "ss"
      exact q
end
section
variable {P : Program} {w : World} {K : PySem.W.Frag} {mg : Str → Option Value} {base : Heap}
def NoInt (K : PySem.W.Frag) (H : Hp) (v : V) : Prop := ∃ T, TyX K H v (.type T) ∧ kitB T "int" = some false
def spIsInt (K : PySem.W.Frag) : Sp := fun vs H Q _ => ∃ (v : V) (lo hi : Int), vs = [v, .int lo, .int hi] ∧
  ((∃ i, v = .int i ∧ Q (.bl (decide (lo ≤ i) && decide (i ≤ hi))) H) ∨ (∃ b, v = .bl b ∧ Q (.bl false) H) ∨ (NoInt K H v ∧ Q (.bl false) H))
def spIsWord (K : PySem.W.Frag) : Sp := fun vs H Q _ => ∃ v, vs = [v] ∧ ((∃ z, v = .str z ∧ z.length ≤ 1000000 ∧ Asc z ∧ ∀ H', Keep [] H H' → Q (.bl (nameL (tl z))) H') ∨ (NoStr K H v ∧ Q (.bl false) H))
def spIsRoad (K : PySem.W.Frag) : Sp := fun vs H Q _ => ∃ v, vs = [v] ∧ ((∃ z, v = .str z ∧ z.length ≤ 1000000 ∧ Asc z ∧ ∀ H', Keep [] H H' → Q (.bl (pathL (tl z))) H') ∨ (NoStr K H v ∧ Q (.bl false) H))
def spAny (K : PySem.W.Frag) : Sp := fun vs H Q _ => ∃ (b : Addr) (z : Str) (n : Nat), vs = [.ref b, .str z] ∧ Bag H b n ∧ n + 100 < 1073741824 ∧ z.length ≤ 10000 ∧ Asc z ∧ ∀ v H', Thing K H' v → Keep [b] H H' → Bag H' b (n + 1) → Q v H'
theorem ok_is_integer (T : Txt K mg) : FnOk P w K mg base CX0 1 (He.ga K "is_integer") (fdOf K (He.ga K "is_integer")) ["value", "low", "high"] (spIsInt K) := by
  refine T.F_is_integer.ok sc_is_integer (fun vs H Q E h => ?len) (fun cdv A outer s H vs Q E hr h => ?body)
  case len =>
    obtain ⟨v, lo, hi, rfl, _⟩ := h
    rfl
  case body =>
    obtain ⟨v, lo, hi, rfl, h⟩ := h
    have nd := sc_is_integer.nd
    have hu := hu_of hr
    refine ⟨_, PSs.nox (pss_one (ps_ret (pe_and (pe_callB call_isi (by rfl) T.m_isinstance (by decide +kernel) (pa_cons (pv 0) (pa_cons (pe_bltn (v := .ty "int") (by rfl) T.m_int (by decide +kernel) rfl) pa_nil))) (pe_and (pe_not (pe_callB call_isi (by rfl) T.m_isinstance (by decide +kernel) (pa_cons (pv 0) (pa_cons (pe_bltn (v := .ty "bool") (by rfl) T.m_bool (by decide +kernel) rfl) pa_nil)))) (pe_one (pe_chain op_le op_le (pv 1) (pv 0) (pv 2))))))), ?_⟩
    walk_at "ss"
    rcases h with ⟨i, rfl, q⟩ | ⟨b, rfl, q⟩ | ⟨⟨T, ty, hT⟩, q⟩
    · refine w_isi (.base (.int i)) (b := true) (by decide +kernel) ?_
      walk_at "ss"
      refine w_isi (.base (.int i)) (b := false) (by decide +kernel) ?_
      walk_at "ss"
      refine w_ite (fun e => ?_) (fun e => ?_)
      · walk_at "ss"
        rw [decide_eq_true e] at q
        exact q
      · walk_at "ss"
        rw [decide_eq_false e] at q
        exact q
    · refine w_isi (.base (.bl b)) (b := true) (by decide +kernel) ?_
      walk_at "ss"
      refine w_isi (.base (.bl b)) (b := true) (by decide +kernel) ?_
      walk_at "ss"
      exact q
    · refine w_isi ty hT ?_
      walk_at "ss"
      exact q
theorem ok_is_list (T : Txt K mg) : FnOk P w K mg base CX0 1 (He.ga K "is_list") (fdOf K (He.ga K "is_list")) ["value"] (spIsList K) := by
  refine T.F_is_list.ok sc_is_list (fun vs H Q E h => ?len) (fun cdv A outer s H vs Q E hr h => ?body)
  case len =>
    obtain ⟨v, t, b, rfl, _⟩ := h
    rfl
  case body =>
    obtain ⟨v, t, b, rfl, ty, hk, q⟩ := h
    have nd := sc_is_list.nd
    have hu := hu_of hr
    refine ⟨_, PSs.nox (pss_one (ps_ret (pe_callB call_isiT (by rfl) T.m_isinstance (by decide +kernel) (pa_cons (pv 0) (pa_cons (pe_tup (pa_cons (pe_bltn (v := .ty "list") (by rfl) T.m_list (by decide +kernel) rfl) (pa_cons (pe_bltn (v := .ty "tuple") (by rfl) T.m_tuple (by decide +kernel) rfl) pa_nil))) pa_nil))))), ?_⟩
    walk_at "ss"
    intro p hp
    walk_at "ss"
    exact w_isiT2 upd_same (tyX_keep ty (Keep.new hp)) hk (q _ (Keep.new hp))
theorem ok_law_is_word (T : Txt K mg) : FnOk P w K mg base CX0 1 (He.ga K "_law_is_word") (fdOf K (He.ga K "_law_is_word")) ["_law_thing"] (spIsWord K) := by
  refine T.F_law_is_word.ok sc_law_is_word (fun vs H Q E h => ?len) (fun cdv A outer s H vs Q E hr h => ?body)
  case len =>
    obtain ⟨v, rfl, _⟩ := h
    rfl
  case body =>
    obtain ⟨v, rfl, h⟩ := h
    have nd := sc_law_is_word.nd
    have hu := hu_of hr
    refine ⟨_, PSs.nox (pss_cons (ps_if (PW.pt (pw_or (pt_not (pt_val (pe_callB call_isi (by rfl) T.m_isinstance (by decide +kernel) (pa_cons (pv 0) (pa_cons (pe_bltn (v := .ty "str") (by rfl) T.m_str (by decide +kernel) rfl) pa_nil))))) (pw_or (pt_cmpR op_eq (pv 0) pe_str (nomark _)) (pw_or1 (pt_cmpR op_gt (pe_callB call_len_str (by rfl) T.m_len PySem.boot_len (pa_cons (pv 0) pa_nil)) pe_int (nomark _))))))
        (pss_one (ps_ret (pe_bl)))
        (pss_nil))
      (pss_one (ps_ret (pe_cmpR (op_eqD hr.units) (pe_lc (own := [("_law_sign", 1)]) (g := gName 1) rfl nd (pi_str (pv 0)) (blkOk_by (own := [("_law_sign", 1)]) (N := N_law_is_word) (sc := defScope s_law_is_word) (by decide +kernel)) (fun _ _ _ _ _ => pg_name (i := 1) nd rfl (Or.inl rfl)) (fun _ _ _ _ _ => pts_one (PW.pt (pw_or (pt_cmpR op_lt_str (pv 1) pe_str (nomark _)) (pw_or1 (pt_cmpR op_gt_str (pv 1) pe_str (nomark _)))))) (fun _ _ _ _ _ => pv 1)) (pe_lst pa_nil) (nomark _))))), ?_⟩
    walk_at "ss"
    rcases h with ⟨z, rfl, hz, ha, q⟩ | ⟨⟨T, ty, hT⟩, q⟩
    · have hlen := len_tl z
      refine w_isi (.base (.str z)) (b := true) (by decide +kernel) ?_
      walk_at "ss"
      refine w_iteS (fun e => ?_) (fun e => ?_)
      · subst e
        walk_at "ss"
        exact q H (Keep.refl H)
      have h0 : tl z ≠ [] := fun e2 => e (by rw [← mkS_tl z, e2]; rfl)
      have h1 : 1 ≤ (tl z).length := List.length_pos_iff.mpr h0
      walk_at "ss"
      refine w_ite (fun e2 => ?_) (fun e2 => ?_)
      · walk_at "ss"
        have := q H (Keep.refl H)
        rw [show nameL (tl z) = false by unfold nameL; rw [decide_eq_false (by omega)]; rfl] at this
        exact this
      walk_at "ss"
      intro p hp
      refine lc_text (fun i acc H' => Hold (Keep [] H H' ∧ acc = ((((tl z).take i).filter (fun c => !isLow c)).map fun c => mkS [c]).map V.str)) ?_ ?_ ?_
      · exact ⟨Keep.new hp, rfl⟩
      · rintro i acc c H1 hc ⟨k1, ha1⟩ e3
        have hi := (List.getElem?_eq_some_iff.mp hc).1
        have hla : acc.length < 16777216 := by
          rw [ha1, List.length_map, List.length_map]
          refine Nat.lt_of_le_of_lt (List.length_filter_le _ _) ?_
          rw [List.length_take]
          omega
        walk_at "ss"
        refine ⟨mkS [c], mkS [97], rfl, rfl, ?_⟩
        rw [one_lt]
        walk_at "ss"
        refine w_ite (fun e4 => ?_) (fun e4 => ?_)
        · walk_at "ss"
          refine ⟨acc, e3, lt_line hla, _, upd_same, k1.updNew hp, ?_⟩
          rw [ha1, take_snoc hc, List.filter_append, List.map_append, List.map_append, List.filter_cons_of_pos (by simp [isLow]; omega)]
          rfl
        · walk_at "ss"
          refine ⟨mkS [c], mkS [122], rfl, rfl, ?_⟩
          rw [one_lt]
          walk_at "ss"
          refine w_ite (fun e5 => ?_) (fun e5 => ?_)
          · walk_at "ss"
            refine ⟨acc, e3, lt_line hla, _, upd_same, k1.updNew hp, ?_⟩
            rw [ha1, take_snoc hc, List.filter_append, List.map_append, List.map_append, List.filter_cons_of_pos (by simp [isLow]; omega)]
            rfl
          · refine ⟨acc, e3, k1, ?_⟩
            rw [ha1, take_snoc hc, List.filter_append, List.filter_cons_of_neg (by simp [isLow]; omega), List.filter_nil, List.append_nil]
      rintro acc H1 ⟨k1, ha1⟩ e3
      rw [List.take_length] at ha1
      subst ha1
      walk_at "ss"
      intro p2 hp2
      refine w_eqD (.lst (SqL.of (stay e3 hp2)) (dp_strs _)) (.lst (SqL.of upd_same) .nil) (shaped_strs fun x hx => ?_) shaped_nil ?_
      · obtain ⟨c, hc, rfl⟩ := List.mem_map.mp hx
        exact Asc.mk (by simpa using ha c (List.mem_filter.mp hc).1)
      rw [eqv_strs_nil]
      have := q _ (k1.trans (Keep.new (o := .lst []) hp2))
      have e6 : nameL (tl z) = List.isEmpty (((tl z).filter (fun c => !isLow c)).map fun c => mkS [c]) := by
        unfold nameL
        rw [decide_eq_true (by omega), Bool.true_and, List.isEmpty_map]
        induction tl z with
        | nil => rfl
        | cons c r ih =>
          rw [List.all_cons, List.filter_cons, ih]
          cases isLow c <;> simp
      rw [e6] at this
      exact this
    · refine w_isiV ty hT ?_
      walk_at "ss"
      exact q
end
section
variable {P : Program} {w : World} {K : PySem.W.Frag} {mg : Str → Option Value} {base : Heap}
theorem isWord_go {K : PySem.W.Frag} {z : Str} {H : Hp} {Q : VK} {E : XK} (hz : z.length ≤ 1000000) (ha : Asc z) (q : ∀ H', Keep [] H H' → Q (.bl (nameL (tl z))) H') : spIsWord K [.str z] H Q E := ⟨_, rfl, .inl ⟨z, rfl, hz, ha, q⟩⟩
def strsV (l : List (List Nat)) : List V := (l.map mkS).map V.str
theorem cutS_to1 (c : Nat) (r : List Nat) : cutS (mkS (c :: r)) none (some 1) = mkS [c] := by
  refine TL.ext_tl ?_
  show ((c :: r).drop (HT.sIx (mkS (c :: r)).length 0 none)).take (HT.sIx (mkS (c :: r)).length (mkS (c :: r)).length (some 1) - HT.sIx (mkS (c :: r)).length 0 none) = [c]
  have e : (mkS (c :: r)).length = r.length + 1 := rfl
  rw [e, show HT.sIx (r.length + 1) (r.length + 1) (some 1) = min 1 (r.length + 1) from HT.sIx_nat _ _ 1, HT.sIx_none, show min 1 (r.length + 1) = 1 by omega]
  simp
theorem ok_law_is_path (T : Txt K mg) : FnOk P w K mg base CX0 2 (He.ga K "_law_is_path") (fdOf K (He.ga K "_law_is_path")) ["_law_thing"] (spIsRoad K) := by
  refine T.F_law_is_path.ok sc_law_is_path (fun vs H Q E h => ?len) (fun cdv A outer s H vs Q E hr h => ?body)
  case len =>
    obtain ⟨v, rfl, _⟩ := h
    rfl
  case body =>
    obtain ⟨v, rfl, h⟩ := h
    have nd := sc_law_is_path.nd
    have hu := hu_of hr
    refine ⟨_, PSs.nox (pss_cons (ps_if (PW.pt (pw_or (pt_not (pt_val (pe_callB call_isi (by rfl) T.m_isinstance (by decide +kernel) (pa_cons (pv 0) (pa_cons (pe_bltn (v := .ty "str") (by rfl) T.m_str (by decide +kernel) rfl) pa_nil))))) (pw_or1 (pt_cmpR op_ne (pe_slice sl_str (pv 0) po_none (po_some pe_int)) pe_str (nomark _)))))
        (pss_one (ps_ret (pe_bl)))
        (pss_nil))
      (pss_cons (ps_par (i := 1) (j := 2) (by rfl) nd rfl rfl (by decide) rfl rfl (pa_cons pe_str (pa_cons (pe_lst pa_nil) pa_nil)) (by rfl))
      (pss_cons (ps_for PassesOwn.never rfl (pi_str (pe_slice sl_str (pv 0) (po_some pe_int) po_none)) (pg_name (i := 3) nd rfl (Or.inl rfl))
        (pss_one (ps_if (pt_cmpR op_eq (pv 3) pe_str (nomark _))
          (pss_cons (ps_expr (pe_bm PySem.F.plainAttrs_list PySem.F.slot_list_append PySem.F.type_list_append mt_append (pv 2) (pa_cons (pv 1) pa_nil)))
          (pss_one (ps_set (i := 1) nd rfl (Or.inl rfl) (pe_str))))
          (pss_one (ps_set (i := 1) nd rfl (Or.inl rfl) (pe_op op_addT (pv 1) (pv 3)))))))
      (pss_one (ps_ret (pe_or (pe_cmpR op_eq (pv 0) pe_str (nomark _)) (pe_one (pe_cmpR (op_eqD hr.units) (pe_lc (own := [("_law_one", 4)]) (g := gName 4) rfl nd (pi_list (pe_op op_cat (pv 2) (pe_lst (pa_cons (pv 1) pa_nil)))) (blkOk_by (own := [("_law_one", 4)]) (N := N_law_is_path) (sc := defScope s_law_is_path) (by decide +kernel)) (fun _ _ _ _ _ => pg_name (i := 4) nd rfl (Or.inl rfl)) (fun _ _ _ _ _ => pts_one (pt_not (pt_val (pe_call (ok_law_is_word T) (hr.mono (by decide)) (by rfl) T.m_law_is_word T.F_law_is_word.kp (bN_law_is_word T.F_law_is_word) .nil pass0 (pa_cons (pv 4) pa_nil))))) (fun _ _ _ _ _ => pv 4)) (pe_lst pa_nil) (nomark _))))))))), ?_⟩
    walk_at "ss"
    rcases h with ⟨z, rfl, hz, ha, q⟩ | ⟨⟨T, ty, hT⟩, q⟩
    · have hlen := len_tl z
      refine w_isi (.base (.str z)) (b := true) (by decide +kernel) ?_
      walk_at "ss"
      refine w_iteNS (fun e => ?_) (fun e => ?_)
      · have hsl : slash (tl z) = false := by
          cases hl : tl z with
          | nil => rfl
          | cons c r =>
            refine decide_eq_false fun hc => e ?_
            rw [show z = mkS (47 :: r) by rw [← mkS_tl z, hl, hc], cutS_to1]
            rfl
        walk_at "ss"
        have := q H (Keep.refl H)
        rw [path_no hsl] at this
        exact this
      have hr : ∃ r, z = mkS (47 :: r) := by
        cases hl : tl z with
        | nil =>
          rw [show z = mkS [] by rw [← mkS_tl z, hl]] at e
          exact absurd e (by decide)
        | cons c r =>
          rw [show z = mkS (c :: r) by rw [← mkS_tl z, hl], cutS_to1] at e
          have : c = 47 := one_eq.mp (e.trans (show Str.ofString "/" = mkS [47] from rfl))
          exact ⟨r, by rw [← mkS_tl z, hl, this]⟩
      obtain ⟨r, rfl⟩ := hr
      have hrl : r.length + 1 ≤ 1000000 := hz
      have har : ∀ c ∈ r, c < 128 := fun c hc => ha c (List.mem_cons_of_mem _ hc)
      walk_at "ss"
      intro p hp
      walk_at "ss"
      rw [cutS_from1]
      refine for_text (fun i σ' H' => Hold <| ∃ done cur y3 y4, σ' = [some (.str (mkS (47 :: r))), some (.str (mkS cur)), some (.ref p), y3, y4] ∧ cut1 47 [] r = done ++ cut1 47 cur (r.drop i) ∧ cur.length ≤ i ∧ done.length ≤ i ∧ H' = upd H p (.lst (strsV done))) ?_ ?_ ?_
      · exact ⟨[], [], none, none, rfl, rfl, Nat.le_refl _, Nat.le_refl _, rfl⟩
      · rintro i d σ' H' hd ⟨done, cur, y3, y4, rfl, hcut, hcl, hdl, rfl⟩
        obtain ⟨hi, hd⟩ := List.getElem?_eq_some_iff.mp hd
        have hi : i < r.length := hi
        have hd : r[i] = d := hd
        rw [List.drop_eq_getElem_cons hi, hd] at hcut
        walk_at "ss"
        refine w_iteS (fun e => ?_) (fun e => ?_)
        · have e : d = 47 := one_eq.mp e
          walk_at "ss"
          refine w_append upd_same (by unfold strsV; rw [List.length_map, List.length_map]; omega) ?_
          walk_at "ss"
          refine ⟨done ++ [cur], [], _, _, rfl, ?_, by simp, by simp; omega, ?_⟩
          · rw [hcut]
            simp [cut1, e]
          · rw [upd_upd]
            unfold strsV
            rw [List.map_append, List.map_append]
            rfl
        · have e : ¬ d = 47 := fun z => e (by rw [z]; rfl)
          walk_at "ss"
          rw [mkS_app]
          refine ⟨done, cur ++ [d], _, _, rfl, ?_, by simp; omega, by omega, rfl⟩
          rw [hcut]
          simp [cut1, e]
      rintro σ' H' ⟨done, cur, y3, y4, rfl, hcut, hcl, hdl, rfl⟩
      have hcl : cur.length ≤ r.length := hcl
      have hdl : done.length ≤ r.length := hdl
      rw [show r.drop (tl (mkS r)).length = [] from List.drop_length] at hcut
      have hcut : cut1 47 [] r = done ++ [cur] := hcut
      walk_at "ss"
      refine w_itb (fun e => ?_) (fun e => ?_)
      · have e : (47 :: r) = [47] := mkS_inj (V.str.inj (of_decide_eq_true e))
        have : r = [] := by simpa using e
        subst this
        exact q _ (Keep.new hp)
      have hne : r.isEmpty = false := by
        cases r with
        | nil => exact absurd (of_decide_eq_false e) (fun z => z rfl)
        | cons c r => rfl
      walk_at "ss"
      intro p1 hp1
      refine w_cat (stay upd_same hp1) upd_same (by unfold strsV; rw [List.length_map, List.length_map]; simp; omega) fun p2 hp2 => ?_
      have exs : strsV done ++ [V.str (mkS cur)] = strsV (cut1 47 [] r) := by
        rw [hcut]
        unfold strsV
        rw [List.map_append, List.map_append]
        rfl
      rw [exs]
      have k2 : Keep [] H (upd (upd (upd H p (.lst (strsV done))) p1 (.lst [V.str (mkS cur)])) p2 (.lst (strsV (cut1 47 [] r)))) := ((Keep.new hp).trans (Keep.new hp1)).trans (Keep.new hp2)
      have e2 : (upd (upd (upd H p (.lst (strsV done))) p1 (.lst [V.str (mkS cur)])) p2 (.lst (strsV (cut1 47 [] r)))) p2 = some (.lst (strsV (cut1 47 [] r))) := upd_same
      generalize upd (upd (upd H p (.lst (strsV done))) p1 (.lst [V.str (mkS cur)])) p2 (.lst (strsV (cut1 47 [] r))) = H2 at k2 e2 ⊢
      have hcn := cut1_len 47 r []
      walk_at "ss"
      refine ⟨⟨_, SqL.of e2⟩, fun p3 hp3 => ?_⟩
      refine lc_lst (xs := strsV (cut1 47 [] r)) (fun i acc H' => Hold (Keep [] H2 H' ∧ acc = strsV (((cut1 47 [] r).take i).filter (fun w => !nameL w)))) ?_ ?_ ?_ ?_
      · exact ⟨Keep.new hp3, rfl⟩
      · rintro i acc H3 _ ⟨k3, _⟩ _
        exact SqL.of (k3.get e2 (by simp))
      · rintro i acc x H3 hx ⟨k3, ha3⟩ e3
        unfold strsV at hx
        rw [List.map_map, List.getElem?_map] at hx
        obtain ⟨w, hw, rfl⟩ := Option.map_eq_some_iff.mp hx
        have hi := (List.getElem?_eq_some_iff.mp hw).1
        have hwm := List.mem_of_getElem? hw
        have hla : acc.length < 16777216 := by
          rw [ha3]
          unfold strsV
          rw [List.length_map, List.length_map]
          refine Nat.lt_of_le_of_lt (List.length_filter_le _ _) ?_
          rw [List.length_take]
          omega
        walk_at "ss"
        refine isWord_go (z := mkS w) (by have := cut1_part 47 r [] w hwm; rw [mkS_len]; simp at this; omega) (Asc.cut1 (z := mkS r) har hwm) fun H4 k4 => ?_
        rw [tl_mkS]
        walk_at "ss"
        cases hn : nameL w with
        | true =>
          refine ⟨acc, k4.get e3 (by simp), k3.trans k4, ?_⟩
          rw [ha3, take_snoc hw, List.filter_append, List.filter_cons_of_neg (by simp [hn]), List.filter_nil, List.append_nil]
        | false =>
          walk_at "ss"
          refine ⟨acc, k4.get e3 (by simp), lt_line hla, _, upd_same, (k3.trans k4).updNew hp3, ?_⟩
          rw [ha3, take_snoc hw, List.filter_append, List.filter_cons_of_pos (by simp [hn])]
          unfold strsV
          rw [List.map_append, List.map_append]
          rfl
      rintro acc H3 ⟨k3, ha3⟩ e3
      rw [show (strsV (cut1 47 [] r)).length = (cut1 47 [] r).length by unfold strsV; rw [List.length_map, List.length_map], List.take_length] at ha3
      subst ha3
      walk_at "ss"
      intro p4 hp4
      refine w_eqD (.lst (SqL.of (stay e3 hp4)) (dp_strs _)) (.lst (SqL.of upd_same) .nil) (shaped_strs fun x hx => ?_) shaped_nil ?_
      · obtain ⟨w, hw, rfl⟩ := List.mem_map.mp hx
        exact Asc.cut1 (z := mkS r) har (List.mem_filter.mp hw).1
      rw [eqv_strs_nil]
      have := q _ ((k2.trans k3).trans (Keep.new (o := .lst []) hp4))
      have e6 : pathL (tl (mkS (47 :: r))) = List.isEmpty (((cut1 47 [] r).filter (fun w => !nameL w)).map mkS) := by
        show (r.isEmpty || (cut1 47 [] r).all nameL) = _
        rw [hne, Bool.false_or, List.isEmpty_map]
        induction cut1 47 [] r with
        | nil => rfl
        | cons c r ih =>
          rw [List.all_cons, List.filter_cons, ih]
          cases nameL c <;> simp
      rw [e6] at this
      exact this
    · refine w_isiV ty hT ?_
      walk_at "ss"
      exact q
theorem ok_law_any (T : Txt K mg) : FnOk P w K mg base CX0 2 (He.ga K "_law_any") (fdOf K (He.ga K "_law_any")) ["_law_bag_here", "_law_text"] (spAny K) := by
  refine T.F_law_any.ok sc_law_any (fun vs H Q E h => ?len) (fun cdv A outer s H vs Q E hr h => ?body)
  case len =>
    obtain ⟨b, z, n, rfl, _⟩ := h
    rfl
  case body =>
    obtain ⟨b, z, n, rfl, hB, hn, hz, ha, q⟩ := h
    have nd := sc_law_any.nd
    have hu := hu_of hr
    refine ⟨_, PSs.nox (pss_cons (ps_set (i := 2) nd rfl (Or.inl rfl) (pe_lst (pa_cons pe_non (pa_cons pe_bl (pa_cons pe_bl (pa_cons (pe_lst pa_nil) (pa_cons (pe_lst (pa_cons (pv 1) pa_nil)) (pa_cons (pe_tup pa_nil) (pa_cons (pe_tup (pa_cons (pv 1) pa_nil)) (pa_cons pe_dnewK (pa_cons (pe_disp (pps_cons (pv 1) pe_int pps_nil) (by rfl) (by rfl) (fun z => by cases z) (by decide)) (pa_cons pe_int (pa_cons (pe_un un_neg pe_int) (pa_cons (pv 1) (pa_cons pe_str (pa_cons pe_str (pa_cons pe_str (pa_cons pe_str (pa_cons pe_str pa_nil)))))))))))))))))))
      (pss_one (ps_ret (pe_ix ix_list (pv 2) (pe_call (ok_law_take T) (hr.mono (by decide)) (by rfl) T.m_law_take T.F_law_take.kp (bN_law_take T.F_law_take) .nil pass0 (pa_cons (pv 0) (pa_cons pe_int pa_nil))) (fun _ _ => rfl))))), ?_⟩
    walk_at "ss"
    intro p1 hp1
    walk_at "ss"
    intro p2 hp2
    walk_at "ss"
    intro p3 hp3
    walk_at "ss"
    intro p4 hp4
    walk_at "ss"
    intro p5 hp5
    walk_at "ss"
    intro p6 hp6
    walk_at "ss"
    refine ⟨upd_same, [(.inr z, .int 1)], rfl, Nat.le_of_ble_eq_true rfl, ?_⟩
    rw [upd_upd]
    walk_at "ss"
    intro p7 hp7
    walk_at "ss"
    have hB1 := ((((((hB.new (o := .lst []) hp1).new (o := .lst [V.str z]) hp2).new (o := .tup []) hp3).new (o := .tup [V.str z]) hp4).new (o := .dK []) hp5).new (o := .dK (mergeK [] [(.inr z, .int 1)])) hp6).new (o := .lst [V.non, V.bl true, V.bl false, V.ref p1, V.ref p2, V.ref p3, V.ref p4, V.ref p5, V.ref p6, V.int 0, V.int (-1), V.str z, V.str "", V.str "/", V.str "root", V.str "/root", V.str "//"]) hp7
    refine take_go (by decide) (by decide) hB1 (by omega) fun r1 H1 r10 r11 k1 hB2 => ?_
    refine ixL_all (P := Thing K H1) (hB1.take k1 upd_same (by walk_at "nb")) r10 r11 ?_ fun v hv => ?_
    · simp only [List.forall_mem_cons]
      exact ⟨thing_non, thing_bl, thing_bl, thing_lst (xs := []) (hB1.take k1 (by walk_at "st") (by walk_at "nb")), thing_lst (xs := [V.str z]) (hB1.take k1 (by walk_at "st") (by walk_at "nb")),
        thing_tup (xs := []) (hB1.take k1 (by walk_at "st") (by walk_at "nb")), thing_tup (xs := [V.str z]) (hB1.take k1 (by walk_at "st") (by walk_at "nb")), thing_dK (xs := []) (hB1.take k1 (by walk_at "st") (by walk_at "nb")), thing_dK (xs := mergeK [] [(.inr z, .int 1)]) (hB1.take k1 (by walk_at "st") (by walk_at "nb")),
        thing_int, thing_int, thing_str hz ha, thing_str (by decide) (asc_of (by decide)), thing_str (by decide) (asc_of (by decide)), thing_str (by decide) (asc_of (by decide)), thing_str (by decide) (asc_of (by decide)), thing_str (by decide) (asc_of (by decide)), fun _ h => by cases h⟩
    · exact q v H1 hv ((((((((Keep.new hp1).trans (Keep.new hp2)).trans (Keep.new hp3)).trans (Keep.new hp4)).trans (Keep.new hp5)).trans (Keep.new hp6)).trans (Keep.new hp7)).trans k1) hB2
end
section
variable {P : Program} {w : World} {K : PySem.W.Frag} {mg : Str → Option Value} {base : Heap}
def spWord : Sp := fun vs H Q _ => ∃ (b : Addr) (cl : Bool) (n : Nat), vs = [.ref b, .bl cl] ∧ Bag H b n ∧ n + 100 < 1073741824 ∧ ∀ z H', z.length ≤ 30 → Asc z → Keep [b] H H' → Bag H' b (n + 20) → Q (.str z) H'
def spRoad : Sp := fun vs H Q _ => ∃ (b : Addr) (n : Nat), vs = [.ref b] ∧ Bag H b n ∧ n + 1000 < 1073741824 ∧ ∀ z H', z.length ≤ 2000 → Asc z → Keep [b] H H' → Bag H' b (n + 600) → Q (.str z) H'
def spInts : Sp := fun vs H Q _ => ∃ (b : Addr) (n : Nat), vs = [.ref b] ∧ Bag H b n ∧ n + 1000 < 1073741824 ∧ ∀ H', Keep [b] H H' → Bag H' b (n + 10) → Q (.bl true) H'
theorem asc_at {z : Str} {i c : Nat} (h : Asc z) (e : (tl z)[i]? = some c) : c < 128 := h c (List.mem_of_getElem? e)
theorem ok_law_word (T : Txt K mg) : FnOk P w K mg base CX0 2 (He.ga K "_law_word") (fdOf K (He.ga K "_law_word")) ["_law_bag_here", "_law_clean"] (spWord) := by
  refine T.F_law_word.ok sc_law_word (fun vs H Q E h => ?len) (fun cdv A outer s H vs Q E hr h => ?body)
  case len =>
    obtain ⟨b, cl, n, rfl, _⟩ := h
    rfl
  case body =>
    obtain ⟨b, cl, n, rfl, hB, hn, q⟩ := h
    have nd := sc_law_word.nd
    have hu := hu_of hr
    refine ⟨_, PSs.nox (pss_cons (ps_set (i := 2) nd rfl (Or.inr rfl) (pe_str))
      (pss_cons (ps_set (i := 3) nd rfl (Or.inl rfl) (pe_join pe_str (pe_lc (own := [("_law_k", 4)]) (g := gName 4) rfl nd (pi_range1 rfl T.m_range (pa_cons (pe_ix ix_list (pe_lst (pa_cons (pe_op op_add pe_int (pe_call (ok_law_take T) (hr.mono (by decide)) (by rfl) T.m_law_take T.F_law_take.kp (bN_law_take T.F_law_take) .nil pass0 (pa_cons (pv 0) (pa_cons pe_int pa_nil)))) (pa_cons pe_int (pa_cons pe_int (pa_cons pe_int pa_nil))))) (pe_call (ok_law_take T) (hr.mono (by decide)) (by rfl) T.m_law_take T.F_law_take.kp (bN_law_take T.F_law_take) .nil pass0 (pa_cons (pv 0) (pa_cons pe_int pa_nil))) (fun _ _ => rfl)) pa_nil)) (blkOk_by (own := [("_law_k", 4)]) (N := N_law_word) (sc := defScope s_law_word) (by decide +kernel)) (fun _ _ _ _ _ => pg_name (i := 4) nd rfl (Or.inl rfl)) (fun _ _ _ _ _ => pts_nil) (fun _ _ _ _ _ => pe_ix ix_str (pv 2) (pe_call (ok_law_take T) (hr.mono (by decide)) (by rfl) T.m_law_take T.F_law_take.kp (bN_law_take T.F_law_take) .nil pass0 (pa_cons (pv 0) (pa_cons pe_int pa_nil))) (fun _ _ => rfl)))))
      (pss_cons (ps_if (PW.pt (pw_or (pt_val (pv 1)) (pw_or1 (pt_cmpR op_gt (pe_call (ok_law_take T) (hr.mono (by decide)) (by rfl) T.m_law_take T.F_law_take.kp (bN_law_take T.F_law_take) .nil pass0 (pa_cons (pv 0) (pa_cons pe_int pa_nil))) pe_int (nomark _)))))
        (pss_one (ps_ret (pv 3)))
        (pss_nil))
      (pss_cons (ps_set (i := 5) nd rfl (Or.inl rfl) (pe_call (ok_law_take T) (hr.mono (by decide)) (by rfl) T.m_law_take T.F_law_take.kp (bN_law_take T.F_law_take) .nil pass0 (pa_cons (pv 0) (pa_cons (pe_op op_add (pe_callB call_len_str (by rfl) T.m_len PySem.boot_len (pa_cons (pv 3) pa_nil)) pe_int) pa_nil))))
      (pss_cons (ps_set (i := 6) nd rfl (Or.inl rfl) (pe_str))
      (pss_cons (ps_set (i := 7) nd rfl (Or.inl rfl) (pe_ix ix_str (pv 6) (pe_call (ok_law_take T) (hr.mono (by decide)) (by rfl) T.m_law_take T.F_law_take.kp (bN_law_take T.F_law_take) .nil pass0 (pa_cons (pv 0) (pa_cons (pe_callB call_len_str (by rfl) T.m_len PySem.boot_len (pa_cons (pv 6) pa_nil)) pa_nil))) (fun _ _ => rfl)))
      (pss_one (ps_ret (pe_op op_addT (pe_op op_addT (pe_slice sl_str (pv 3) po_none (po_some (pv 5))) (pv 7)) (pe_slice sl_str (pv 3) (po_some (pe_op op_add (pv 5) (pe_call (ok_law_take T) (hr.mono (by decide)) (by rfl) T.m_law_take T.F_law_take.kp (bN_law_take T.F_law_take) .nil pass0 (pa_cons (pv 0) (pa_cons pe_int pa_nil))))) po_none)))))))))), ?_⟩
    walk_at "ss"
    refine take_go (by decide) (by decide) hB (by omega) fun r0 H0 r00 r01 k0 hB0 => ?_
    walk_at "ss"
    intro p1 hp1
    walk_at "ss"
    have hB1 := hB0.new (o := .lst [V.int (1 + r0), V.int 8, V.int 9, V.int 10]) hp1
    refine take_go (by decide) (by decide) hB1 (by omega) fun r1 H1 r10 r11 k1 hB2 => ?_
    refine ixL_all (P := fun v => ∃ m : Int, v = .int m ∧ 1 ≤ m ∧ m ≤ 10) (hB1.take k1 upd_same (by walk_at "nb")) r10 r11 (by
      simp only [List.forall_mem_cons]
      exact ⟨⟨_, rfl, by omega, by omega⟩, ⟨_, rfl, by omega, by omega⟩, ⟨_, rfl, by omega, by omega⟩, ⟨_, rfl, by omega, by omega⟩, fun _ h => by cases h⟩) ?_
    rintro v ⟨m, rfl, hm1, hm2⟩
    have k2 := (k0.trans (Keep.new (o := .lst [V.int (1 + r0), V.int 8, V.int 9, V.int 10]) hp1)).trans k1
    walk_at "ss"
    refine ⟨by omega, by omega, fun p2 hp2 => ?_⟩
    have hp2b := hB2.ne hp2
    refine lc_rng (fun j acc H' => Hold (Keep [b] H1 H' ∧ Bag H' b (n + 2 + j) ∧ acc.length = j ∧ ∀ v ∈ acc, ∃ c, v = V.str (mkS [c]) ∧ c < 128)) ?_ ?_ ?_
    · exact ⟨Keep.new hp2, hB2.new hp2, rfl, fun v hv => by cases hv⟩
    · rintro j acc H3 hj ⟨k4, hB3, hl3, hv3⟩ e3
      walk_at "ss"
      refine take_go (by decide) (by decide) hB3 (by omega) fun r4 H4 r40 r41 k5 hB4 => ?_
      obtain ⟨d, hd0, hd⟩ := atS (z := "abcdefghijklmnopqrstuvwxyz") r40 r41
      refine w_ixS (le_line (by decide)) hd ?_
      exact ⟨acc, k5.get e3 (by simpa using hp2b), lt_line (by omega), _, upd_same, (k4.trans k5).updNew hp2, (hB4.mono (by omega)).upd hp2b.symm, by simp [hl3], all_snoc hv3 ⟨d, rfl, asc_at (asc_of (by decide)) hd0⟩⟩
    rintro acc H3 ⟨k4, hB3, hl3, hv3⟩ e3
    obtain ⟨cs, rfl, hcs⟩ := one_strs hv3
    rw [List.length_map, List.length_map] at hl3
    walk_at "ss"
    refine ⟨"", p2, _, rfl, rfl, .inl (SqL.of e3), by rw [sum_ones, List.length_map]; show cs.length + cs.length * 0 ≤ _; omega, ?_⟩
    rw [Fr.join_ones]
    have hcl : (mkS cs).length ≤ 10 := by
      rw [mkS_len]
      omega
    have hza : Asc (mkS cs) := Asc.mk hcs
    generalize mkS cs = z at hcl hza ⊢
    have hB3 := hB3.mono (show _ ≤ n + 12 by omega)
    have k6 := k2.trans k4
    walk_at "ss"
    refine w_itb (fun _ => ?_) (fun _ => ?_)
    · walk_at "ss"
      exact q _ _ (by omega) hza k6 (hB3.mono (by omega))
    walk_at "ss"
    refine take_go (by decide) (by decide) hB3 (by omega) fun r5 H5 r50 r51 k7 hB5 => ?_
    walk_at "ss"
    refine w_ite (fun _ => ?_) (fun _ => ?_)
    · walk_at "ss"
      exact q _ _ (by omega) hza (k6.trans k7) (hB5.mono (by omega))
    walk_at "ss"
    refine take_go (by omega) (by omega) hB5 (by omega) fun r6 H6 r60 r61 k8 hB6 => ?_
    walk_at "ss"
    refine take_go (by decide) (by decide) hB6 (by omega) fun r7 H7 r70 r71 k9 hB7 => ?_
    obtain ⟨d, hd0, hd⟩ := atS (z := "`{AZ09/_-. \n!\"#$&'()*+,:;<=>?\x40[]^|}~\\") r70 r71
    refine w_ixS (le_line (by decide)) hd ?_
    have h1 := cutS_length z none (some r6)
    walk_at "ss"
    refine take_go (by decide) (by decide) hB7 (by omega) fun r8 H8 r80 r81 k10 hB8 => ?_
    have h2 := cutS_length z (some (r6 + r8)) none
    walk_at "ss"
    exact q _ _ (by simp only [app_len, mkS_len, List.length_cons, List.length_nil]; omega) (((hza.cutS _ _).app (Asc.mk (by simpa using asc_at (asc_of (by decide)) hd0))).app (hza.cutS _ _)) ((((k6.trans k7).trans k8).trans k9).trans k10) (hB8.mono (by omega))
theorem word_go {b : Addr} {cl : Bool} {n : Nat} {H : Hp} {Q : VK} {E : XK} (hB : Bag H b n) (hn : n + 100 < 1073741824) (q : ∀ z H', z.length ≤ 30 → Asc z → Keep [b] H H' → Bag H' b (n + 20) → Q (.str z) H') : spWord [.ref b, .bl cl] H Q E := ⟨b, cl, n, rfl, hB, hn, q⟩
theorem ok_law_path (T : Txt K mg) : FnOk P w K mg base CX0 3 (He.ga K "_law_path") (fdOf K (He.ga K "_law_path")) ["_law_bag_here"] (spRoad) := by
  refine T.F_law_path.ok sc_law_path (fun vs H Q E h => ?len) (fun cdv A outer s H vs Q E hr h => ?body)
  case len =>
    obtain ⟨b, n, rfl, _⟩ := h
    rfl
  case body =>
    obtain ⟨b, n, rfl, hB, hn, q⟩ := h
    have nd := sc_law_path.nd
    have hu := hu_of hr
    refine ⟨_, PSs.nox (pss_cons (ps_asg (pe_tup (pa_cons (pe_cmpR op_gt (pe_call (ok_law_take T) (hr.mono (by decide)) (by rfl) T.m_law_take T.F_law_take.kp (bN_law_take T.F_law_take) .nil pass0 (pa_cons (pv 0) (pa_cons pe_int pa_nil))) pe_int (nomark _)) (pa_cons (pe_ix ix_list (pe_lst (pa_cons (pe_call (ok_law_take T) (hr.mono (by decide)) (by rfl) T.m_law_take T.F_law_take.kp (bN_law_take T.F_law_take) .nil pass0 (pa_cons (pv 0) (pa_cons pe_int pa_nil))) (pa_cons (pe_call (ok_law_take T) (hr.mono (by decide)) (by rfl) T.m_law_take T.F_law_take.kp (bN_law_take T.F_law_take) .nil pass0 (pa_cons (pv 0) (pa_cons pe_int pa_nil))) pa_nil))) (pe_call (ok_law_take T) (hr.mono (by decide)) (by rfl) T.m_law_take T.F_law_take.kp (bN_law_take T.F_law_take) .nil pass0 (pa_cons (pv 0) (pa_cons pe_int pa_nil))) (fun _ _ => rfl)) pa_nil))) (pg_tup rfl (pgs_cons (pg_name (i := 1) nd rfl (Or.inr rfl)) (pgs_cons (pg_name (i := 2) nd rfl (Or.inl rfl)) pgs_nil))))
      (pss_cons (ps_setLc (i := 3) (own := [("_law_k", 4)]) (g := gName 4) rfl nd rfl rfl (sw_true rfl rfl rfl (by decide +kernel)) (pi_range1 rfl T.m_range (pa_cons (pv 2) pa_nil)) (blkOk_by (own := [("_law_k", 4)]) (N := N_law_path) (sc := defScope s_law_path) (by decide +kernel)) (fun _ _ _ _ _ => pg_name (i := 4) nd rfl (Or.inl rfl)) (fun _ _ _ _ _ => pts_nil) (fun _ _ _ _ _ => pe_slice sl_str (pe_call (ok_law_word T) (hr.mono (by decide)) (by rfl) T.m_law_word T.F_law_word.kp (bN_law_word T.F_law_word) .nil pass0 (pa_cons (pv 0) (pa_cons (pv 1) pa_nil))) po_none (po_some pe_int)))
      (pss_cons (ps_set (i := 5) nd rfl (Or.inl rfl) (pe_op op_addT pe_str (pe_join pe_str (pv 3))))
      (pss_cons (ps_set (i := 6) nd rfl (Or.inl rfl) (pe_call (ok_law_take T) (hr.mono (by decide)) (by rfl) T.m_law_take T.F_law_take.kp (bN_law_take T.F_law_take) .nil pass0 (pa_cons (pv 0) (pa_cons pe_int pa_nil))))
      (pss_cons (ps_set (i := 7) nd rfl (Or.inl rfl) (pe_call (ok_law_take T) (hr.mono (by decide)) (by rfl) T.m_law_take T.F_law_take.kp (bN_law_take T.F_law_take) .nil pass0 (pa_cons (pv 0) (pa_cons (pe_op op_add (pe_callB call_len_str (by rfl) T.m_len PySem.boot_len (pa_cons (pv 5) pa_nil)) pe_int) pa_nil))))
      (pss_cons (ps_if (pt_cmpR op_eq (pv 6) pe_int (nomark _))
        (pss_one (ps_ret (pe_op op_addT (pe_slice sl_str (pv 5) po_none (po_some (pv 7))) (pe_slice sl_str (pv 5) (po_some (pe_op op_add (pv 7) pe_int)) po_none))))
        (pss_nil))
      (pss_cons (ps_if (pt_cmpR op_eq (pv 6) pe_int (nomark _))
        (pss_one (ps_ret (pe_op op_addT (pe_op op_addT (pe_slice sl_str (pv 5) po_none (po_some (pv 7))) pe_str) (pe_slice sl_str (pv 5) (po_some (pv 7)) po_none))))
        (pss_nil))
      (pss_cons (ps_if (pt_cmpR op_eq (pv 6) pe_int (nomark _))
        (pss_one (ps_ret (pe_op op_addT (pv 5) (pe_ix ix_list (pe_lst (pa_cons pe_str (pa_cons pe_str (pa_cons pe_str (pa_cons pe_str pa_nil))))) (pe_call (ok_law_take T) (hr.mono (by decide)) (by rfl) T.m_law_take T.F_law_take.kp (bN_law_take T.F_law_take) .nil pass0 (pa_cons (pv 0) (pa_cons pe_int pa_nil))) (fun _ _ => rfl)))))
        (pss_nil))
      (pss_one (ps_ret (pv 5))))))))))), ?_⟩
    walk_at "ss"
    refine take_go (by decide) (by decide) hB (by omega) fun r0 H0 r00 r01 k0 hB0 => ?_
    walk_at "ss"
    refine take_go (by decide) (by decide) hB0 (by omega) fun r1 H1 r10 r11 k1 hB1 => ?_
    walk_at "ss"
    refine take_go (by decide) (by decide) hB1 (by omega) fun r2 H2 r20 r21 k2 hB2 => ?_
    walk_at "ss"
    intro p1 hp1
    walk_at "ss"
    have hB3 := hB2.new (o := .lst [V.int r1, V.int r2]) hp1
    refine take_go (by decide) (by decide) hB3 (by omega) fun r3 H3 r30 r31 k3 hB4 => ?_
    refine ixL_all (P := fun v => ∃ m : Int, v = .int m ∧ 0 ≤ m ∧ m ≤ 20) (hB3.take k3 upd_same (by walk_at "nb")) r30 r31 (by
      simp only [List.forall_mem_cons]
      exact ⟨⟨_, rfl, by omega, by omega⟩, ⟨_, rfl, by omega, by omega⟩, fun _ h => by cases h⟩) ?_
    rintro v ⟨m, rfl, hm1, hm2⟩
    have k4 := (((k0.trans k1).trans k2).trans (Keep.new (o := .lst [V.int r1, V.int r2]) hp1)).trans k3
    walk_at "ss"
    intro p2 hp2
    have k5 := k4.trans (Keep.new (o := .tup [V.bl (decide (0 < r0)), V.int m]) hp2)
    have hB5 := hB4.new (o := .tup [V.bl (decide (0 < r0)), V.int m]) hp2
    walk_at "ss"
    generalize upd H3 p2 (.tup [V.bl (decide (0 < r0)), V.int m]) = H4 at k5 hB5 ⊢
    refine ⟨by omega, by omega, fun p3 hp3 => ?_⟩
    have hp3b := hB5.ne hp3
    refine lc_rng (fun j acc H' => Hold (Keep [b] H4 H' ∧ Bag H' b (n + 4 + 20 * j) ∧ acc.length = j ∧ ∀ v ∈ acc, ∃ y, v = V.str y ∧ (y.length ≤ 30 ∧ Asc y))) ?_ ?_ ?_
    · exact ⟨Keep.new hp3, hB5.new hp3, rfl, fun v hv => by cases hv⟩
    · rintro j acc H5 hj ⟨k6, hB6, hl6, hv6⟩ e6
      walk_at "ss"
      refine word_go hB6 (by omega) fun y H6 hy hya k7 hB7 => ?_
      have h1 := cutS_length y none (some 8)
      walk_at "ss"
      exact ⟨acc, k7.get e6 (by simpa using hp3b), lt_line (by omega), _, upd_same, (k6.trans k7).updNew hp3, (hB7.mono (by omega)).upd hp3b.symm, by simp [hl6], all_snoc hv6 ⟨_, rfl, by omega, hya.cutS _ _⟩⟩
    rintro acc H5 ⟨k6, hB6, hl6, hv6⟩ e6
    obtain ⟨ys, rfl, hys⟩ := all_strs hv6
    rw [List.length_map] at hl6
    have hsum : (ys.map (·.length)).sum + ys.length * (mkS [47]).length ≤ 620 := by
      have h1 : (ys.map (·.length)).sum ≤ (ys.map (·.length)).length * 30 := sum_le fun x hx => by
        obtain ⟨y, hy, rfl⟩ := List.mem_map.mp hx
        exact (hys y hy).1
      rw [List.length_map] at h1
      have h2 : (mkS [47]).length = 1 := rfl
      rw [h2]
      omega
    walk_at "ss"
    refine ⟨mkS [47], p3, ys, rfl, rfl, .inl (SqL.of e6), by omega, ?_⟩
    have hz := Nat.le_trans (join_len (mkS [47]) ys) hsum
    have hza : Asc (Txt.join (mkS [47]) ys) := Asc.join (asc_of (by decide)) fun y hy => (hys y hy).2
    generalize Txt.join (mkS [47]) ys = z at hz hza ⊢
    have hB7 := hB6.mono (show _ ≤ n + 404 by omega)
    have k8 := k5.trans k6
    have hsl : (Str.ofString "/").length = 1 := rfl
    have hsa : Asc "/" := asc_of (by decide)
    refine w_addT (by omega) ?_
    have hz2 : (Str.ofString "/" ++ z).length ≤ 621 := by
      rw [app_len]
      omega
    have hza2 : Asc (Str.ofString "/" ++ z) := hsa.app hza
    generalize Str.ofString "/" ++ z = z2 at hz2 hza2 ⊢
    walk_at "ss"
    refine take_go (by decide) (by decide) hB7 (by omega) fun way H8 way0 way1 k9 hB8 => ?_
    walk_at "ss"
    refine take_go (by omega) (by omega) hB8 (by omega) fun at_ H9 at0 at1 k10 hB9 => ?_
    have k11 := (k8.trans k9).trans k10
    have h1 := cutS_length z2 none (some at_)
    have h2 := cutS_length z2 (some at_) none
    have h3 := cutS_length z2 (some (at_ + 1)) none
    walk_at "ss"
    refine w_iteI (fun _ => ?_) (fun _ => ?_)
    · walk_at "ss"
      exact q _ _ (by rw [app_len]; omega) ((hza2.cutS _ _).app (hza2.cutS _ _)) k11 (hB9.mono (by omega))
    walk_at "ss"
    refine w_iteI (fun _ => ?_) (fun _ => ?_)
    · walk_at "ss"
      exact q _ _ (by rw [app_len, app_len]; omega) (((hza2.cutS _ _).app hsa).app (hza2.cutS _ _)) k11 (hB9.mono (by omega))
    walk_at "ss"
    refine w_iteI (fun _ => ?_) (fun _ => ?_)
    · walk_at "ss"
      intro p4 hp4
      walk_at "ss"
      have hB10 := hB9.new (o := .lst [V.str "/", V.str " ", V.str "\n", V.str "/x"]) hp4
      refine take_go (by decide) (by decide) hB10 (by omega) fun r5 H10 r50 r51 k12 hB11 => ?_
      refine ixL_all (P := fun v => ∃ y, v = V.str y ∧ y.length ≤ 2 ∧ Asc y) (hB10.take k12 upd_same (by walk_at "nb")) r50 r51 (by
        simp only [List.forall_mem_cons]
        exact ⟨⟨_, rfl, by decide, asc_of (by decide)⟩, ⟨_, rfl, by decide, asc_of (by decide)⟩, ⟨_, rfl, by decide, asc_of (by decide)⟩, ⟨_, rfl, by decide, asc_of (by decide)⟩, fun _ h => by cases h⟩) ?_
      rintro v ⟨y, rfl, hy, hya⟩
      walk_at "ss"
      exact q _ _ (by rw [app_len]; omega) (hza2.app hya) ((k11.trans (Keep.new hp4)).trans k12) (hB11.mono (by omega))
    walk_at "ss"
    exact q _ _ (by omega) hza2 k11 (hB9.mono (by omega))
def intVal (v : V) (lo hi : Int) : Bool := match v with
  | .int i => decide (lo ≤ i) && decide (i ≤ hi)
  | _ => false
def IntLike (K : PySem.W.Frag) (H : Hp) (v : V) : Prop := (∃ i, v = .int i) ∨ (∃ b, v = .bl b) ∨ (NoInt K H v ∧ ∀ lo hi, intVal v lo hi = false)
theorem isInt_go {K : PySem.W.Frag} {v : V} {lo hi : Int} {H : Hp} {Q : VK} {E : XK} (h : IntLike K H v) (q : Q (.bl (intVal v lo hi)) H) : spIsInt K [v, .int lo, .int hi] H Q E := by
  refine ⟨v, lo, hi, rfl, ?_⟩
  rcases h with ⟨i, rfl⟩ | ⟨b, rfl⟩ | ⟨h, e⟩
  · exact .inl ⟨i, rfl, q⟩
  · exact .inr (.inl ⟨b, rfl, q⟩)
  · rw [e] at q
    exact .inr (.inr ⟨h, q⟩)
theorem ok_law_integers_right (T : Txt K mg) : FnOk P w K mg base CX0 2 (He.ga K "_law_integers_right") (fdOf K (He.ga K "_law_integers_right")) ["_law_bag_here"] (spInts) := by
  refine T.F_law_integers_right.ok sc_law_integers_right (fun vs H Q E h => ?len) (fun cdv A outer s H vs Q E hr h => ?body)
  case len =>
    obtain ⟨b, n, rfl, _⟩ := h
    rfl
  case body =>
    obtain ⟨b, n, rfl, hB, hn, q⟩ := h
    have nd := sc_law_integers_right.nd
    have hu := hu_of hr
    refine ⟨_, PSs.nox (pss_cons (ps_set (i := 1) nd rfl (Or.inl rfl) (pe_lst (pa_cons (pe_op op_sub (pe_call (ok_law_take T) (hr.mono (by decide)) (by rfl) T.m_law_take T.F_law_take.kp (bN_law_take T.F_law_take) .nil pass0 (pa_cons (pv 0) (pa_cons pe_int pa_nil))) pe_int) (pa_cons (pe_op op_mul (pe_call (ok_law_take T) (hr.mono (by decide)) (by rfl) T.m_law_take T.F_law_take.kp (bN_law_take T.F_law_take) .nil pass0 (pa_cons (pv 0) (pa_cons (pe_op op_pow pe_int pe_int) pa_nil))) (pe_op op_pow pe_int pe_int)) (pa_cons (pe_un un_neg pe_int) (pa_cons pe_int (pa_cons pe_int pa_nil)))))))
      (pss_cons (ps_par (i := 2) (j := 3) (by rfl) nd rfl rfl (by decide) rfl rfl (pa_cons (pe_ix ix_list (pv 1) (pe_call (ok_law_take T) (hr.mono (by decide)) (by rfl) T.m_law_take T.F_law_take.kp (bN_law_take T.F_law_take) .nil pass0 (pa_cons (pv 0) (pa_cons pe_int pa_nil))) (fun _ _ => rfl)) (pa_cons (pe_ix ix_list (pv 1) (pe_call (ok_law_take T) (hr.mono (by decide)) (by rfl) T.m_law_take T.F_law_take.kp (bN_law_take T.F_law_take) .nil pass0 (pa_cons (pv 0) (pa_cons pe_int pa_nil))) (fun _ _ => rfl)) pa_nil)) (by rfl))
      (pss_cons (ps_set (i := 4) nd rfl (Or.inl rfl) (pe_lst (pa_cons (pe_op op_sub (pv 2) pe_int) (pa_cons (pv 2) (pa_cons (pe_op op_add (pv 2) pe_int) (pa_cons (pe_op op_sub (pv 3) pe_int) (pa_cons (pv 3) (pa_cons (pe_op op_add (pv 3) pe_int) (pa_cons (pe_op op_sub pe_int (pe_op op_pow pe_int pe_int)) (pa_cons (pe_op op_pow pe_int pe_int) (pa_cons pe_bl (pa_cons pe_bl (pa_cons pe_non (pa_cons pe_str (pa_cons (pe_lst (pa_cons pe_int pa_nil)) pa_nil)))))))))))))))
      (pss_cons (ps_for PassesOwn.never rfl (pi_list (pv 4)) (pg_name (i := 5) nd rfl (Or.inl rfl))
        (pss_cut (ps_set (i := 6) nd rfl (Or.inl rfl) (pe_and (pe_callB call_isi (by rfl) T.m_isinstance (by decide +kernel) (pa_cons (pv 5) (pa_cons (pe_bltn (v := .ty "int") (by rfl) T.m_int (by decide +kernel) rfl) pa_nil))) (pe_and (pe_not (pe_callB call_isi (by rfl) T.m_isinstance (by decide +kernel) (pa_cons (pv 5) (pa_cons (pe_bltn (v := .ty "bool") (by rfl) T.m_bool (by decide +kernel) rfl) pa_nil)))) (pe_and (pe_cmpR op_le (pv 2) (pv 5) (nomark _)) (pe_one (pe_cmpR op_le (pv 5) (pv 3) (nomark _)))))))
        (pss_cons (ps_set (i := 7) nd rfl (Or.inl rfl) (pe_callZ0 (ok_is_integer T) (hr.mono (by decide)) (by rfl) T.m_is_integer T.F_is_integer.kp (bK0_is_integer T.F_is_integer) pass0 (pk_cons (pv 3) (pk_cons (pv 2) (pk_cons (pv 5) pk_nil)))))
        (pss_one (ps_if (PW.pt (pw_or (pt_not (pt_val (pe_callB call_isi (by rfl) T.m_isinstance (by decide +kernel) (pa_cons (pv 7) (pa_cons (pe_bltn (v := .ty "bool") (by rfl) T.m_bool (by decide +kernel) rfl) pa_nil))))) (pw_or1 (pt_cmpR op_ne (pv 7) (pv 6) (nomark _)))))
          (pss_one (ps_ret (pe_bl)))
          (pss_nil))))))
      (pss_one (ps_ret (pe_bl))))))), ?_⟩
    walk_at "ss"
    refine take_go (by decide) (by decide) hB (by omega) fun r0 H0 r00 r01 k0 hB0 => ?_
    walk_at "ss"
    refine take_go (by decide) (by decide) hB0 (by omega) fun r1 H1 r10 r11 k1 hB1 => ?_
    walk_at "ss"
    have r11 : r1 < 100000000 := r11
    refine w_I (.inl ⟨by omega, by omega⟩) ?_
    walk_at "ss"
    intro p1 hp1
    generalize r1 * 10 ^ Int.toNat 21 = big
    walk_at "ss"
    have hB2 := hB1.new (o := .lst [V.int (r0 - 10), V.int big, V.int (-7), V.int 0, V.int 1]) hp1
    refine take_go (by decide) (by decide) hB2 (by omega) fun r2 H2 r20 r21 k2 hB3 => ?_
    have e1 : H2 p1 = some (.lst [V.int (r0 - 10), V.int big, V.int (-7), V.int 0, V.int 1]) := hB2.take k2 upd_same (by walk_at "nb")
    refine ixL_all (P := fun v => ∃ m : Int, v = .int m) e1 r20 r21 (by
      simp only [List.forall_mem_cons]
      exact ⟨⟨_, rfl⟩, ⟨_, rfl⟩, ⟨_, rfl⟩, ⟨_, rfl⟩, ⟨_, rfl⟩, fun _ h => by cases h⟩) ?_
    rintro v ⟨lo, rfl⟩
    walk_at "ss"
    refine take_go (by decide) (by decide) hB3 (by omega) fun r3 H3 r30 r31 k3 hB4 => ?_
    refine ixL_all (P := fun v => ∃ m : Int, v = .int m) (hB3.take k3 e1 (by walk_at "nb")) r30 r31 (by
      simp only [List.forall_mem_cons]
      exact ⟨⟨_, rfl⟩, ⟨_, rfl⟩, ⟨_, rfl⟩, ⟨_, rfl⟩, ⟨_, rfl⟩, fun _ h => by cases h⟩) ?_
    rintro v ⟨hi, rfl⟩
    have k4 := (((k0.trans k1).trans (Keep.new (o := .lst [V.int (r0 - 10), V.int big, V.int (-7), V.int 0, V.int 1]) hp1)).trans k2).trans k3
    walk_at "ss"
    intro p2 hp2
    walk_at "ss"
    intro p3 hp3
    walk_at "ss"
    have hall : ∀ v ∈ [V.int (lo - 1), V.int lo, V.int (lo + 1), V.int (hi - 1), V.int hi, V.int (hi + 1), V.int (0 - 10 ^ Int.toNat 29), V.int (10 ^ Int.toNat 29), V.bl true, V.bl false, V.non, V.str (Str.ofString "0"), V.ref p2], IntLike K (upd (upd H3 p2 (.lst [V.int 1])) p3 (.lst [V.int (lo - 1), V.int lo, V.int (lo + 1), V.int (hi - 1), V.int hi, V.int (hi + 1), V.int (0 - 10 ^ Int.toNat 29), V.int (10 ^ Int.toNat 29), V.bl true, V.bl false, V.non, V.str (Str.ofString "0"), V.ref p2])) v := by
      simp only [List.forall_mem_cons]
      exact ⟨.inl ⟨_, rfl⟩, .inl ⟨_, rfl⟩, .inl ⟨_, rfl⟩, .inl ⟨_, rfl⟩, .inl ⟨_, rfl⟩, .inl ⟨_, rfl⟩, .inl ⟨_, rfl⟩, .inl ⟨_, rfl⟩, .inr (.inl ⟨_, rfl⟩), .inr (.inl ⟨_, rfl⟩), .inr (.inr ⟨⟨_, .base .non, by decide +kernel⟩, fun _ _ => rfl⟩), .inr (.inr ⟨⟨_, .base (.str _), by decide +kernel⟩, fun _ _ => rfl⟩), .inr (.inr ⟨⟨_, .base (.lst (stay upd_same hp3)), by decide +kernel⟩, fun _ _ => rfl⟩), fun _ h => by cases h⟩
    have k5 := (k4.trans (Keep.new (o := .lst [V.int 1]) hp2)).trans (Keep.new (o := .lst [V.int (lo - 1), V.int lo, V.int (lo + 1), V.int (hi - 1), V.int hi, V.int (hi + 1), V.int (0 - 10 ^ Int.toNat 29), V.int (10 ^ Int.toNat 29), V.bl true, V.bl false, V.non, V.str (Str.ofString "0"), V.ref p2]) hp3)
    have hB5 := (hB4.new (o := .lst [V.int 1]) hp2).new (o := .lst [V.int (lo - 1), V.int lo, V.int (lo + 1), V.int (hi - 1), V.int hi, V.int (hi + 1), V.int (0 - 10 ^ Int.toNat 29), V.int (10 ^ Int.toNat 29), V.bl true, V.bl false, V.non, V.str (Str.ofString "0"), V.ref p2]) hp3
    have e3 : upd (upd H3 p2 (.lst [V.int 1])) p3 (.lst [V.int (lo - 1), V.int lo, V.int (lo + 1), V.int (hi - 1), V.int hi, V.int (hi + 1), V.int (0 - 10 ^ Int.toNat 29), V.int (10 ^ Int.toNat 29), V.bl true, V.bl false, V.non, V.str (Str.ofString "0"), V.ref p2]) p3 = some (.lst [V.int (lo - 1), V.int lo, V.int (lo + 1), V.int (hi - 1), V.int hi, V.int (hi + 1), V.int (0 - 10 ^ Int.toNat 29), V.int (10 ^ Int.toNat 29), V.bl true, V.bl false, V.non, V.str (Str.ofString "0"), V.ref p2]) := upd_same
    generalize upd (upd H3 p2 (.lst [V.int 1])) p3 (.lst [V.int (lo - 1), V.int lo, V.int (lo + 1), V.int (hi - 1), V.int hi, V.int (hi + 1), V.int (0 - 10 ^ Int.toNat 29), V.int (10 ^ Int.toNat 29), V.bl true, V.bl false, V.non, V.str (Str.ofString "0"), V.ref p2]) = H4 at hall k5 hB5 e3 ⊢
    generalize [V.int (lo - 1), V.int lo, V.int (lo + 1), V.int (hi - 1), V.int hi, V.int (hi + 1), V.int (0 - 10 ^ Int.toNat 29), V.int (10 ^ Int.toNat 29), V.bl true, V.bl false, V.non, V.str (Str.ofString "0"), V.ref p2] = things at hall e3
    refine ⟨⟨_, SqL.of e3⟩, ?_⟩
    refine for_lst (xs := things) (fun i σ' H' => Hold <| ∃ y5 y6 y7, σ' = [some (.ref b), some (.ref p1), some (.int lo), some (.int hi), some (.ref p3), y5, y6, y7] ∧ H' = H4) ?_ ?_ ?_ ?_
    · exact ⟨_, _, _, rfl, rfl⟩
    · rintro i σ' H' _ ⟨_, _, _, _, rfl⟩
      exact SqL.of e3
    · rintro i v σ' H' hv ⟨y5, y6, y7, rfl, rfl⟩
      have hil := hall v (List.mem_of_getElem? hv)
      walk_at "ss"
      refine ⟨fun σ' H1 => Hold <| σ' = [some (.ref b), some (.ref p1), some (.int lo), some (.int hi), some (.ref p3), some v, some (.bl (intVal v lo hi)), y7] ∧ H1 = H', ?_, ?_⟩
      · walk_at "ss"
        rcases hil with ⟨i, rfl⟩ | ⟨b, rfl⟩ | ⟨⟨T, ty, hT⟩, e⟩
        · refine w_isi (.base (.int i)) (b := true) (by decide +kernel) ?_
          walk_at "ss"
          refine w_isi (.base (.int i)) (b := false) (by decide +kernel) ?_
          walk_at "ss"
          refine w_ite (fun e => ?_) (fun e => ?_)
          · walk_at "ss"
            have ev : intVal (.int i) lo hi = decide (i ≤ hi) := by
              show (decide (lo ≤ i) && decide (i ≤ hi)) = _
              rw [decide_eq_true e]
              rfl
            rw [← ev]
            exact ⟨rfl, rfl⟩
          · walk_at "ss"
            have ev : intVal (.int i) lo hi = false := by
              show (decide (lo ≤ i) && decide (i ≤ hi)) = _
              rw [decide_eq_false e]
              rfl
            rw [← ev]
            exact ⟨rfl, rfl⟩
        · refine w_isi (.base (.bl b)) (b := true) (by decide +kernel) ?_
          walk_at "ss"
          refine w_isi (.base (.bl b)) (b := true) (by decide +kernel) ?_
          walk_at "ss"
          exact ⟨rfl, rfl⟩
        · refine w_isi ty hT ?_
          walk_at "ss"
          rw [e]
          exact ⟨rfl, rfl⟩
      rintro σ' H1 ⟨rfl, rfl⟩
      walk_at "ss"
      refine isInt_go hil ?_
      walk_at "ss"
      refine w_isi (.base (.bl _)) (b := true) (by decide +kernel) ?_
      walk_at "ss"
      refine w_iteN (fun e => absurd rfl e) (fun _ => ?_)
      walk_at "ss"
      exact ⟨_, _, _, rfl, rfl⟩
    · rintro σ' H' ⟨y5, y6, y7, rfl, rfl⟩
      walk_at "ss"
      exact q _ k5 (hB5.mono (by omega))
end
section
variable {P : Program} {w : World} {K : PySem.W.Frag} {mg : Str → Option Value} {base : Heap}
def dName (v : V) : Bool := match v with
  | .str z => nameL (tl z)
  | _ => false
def dPath (v : V) : Bool := match v with
  | .str z => pathL (tl z)
  | _ => false
theorem name_any {K : PySem.W.Frag} {v : V} {H : Hp} {Q : VK} {E : XK} (h : Thing K H v) (q : ∀ H', Keep [] H H' → Q (.bl (dName v)) H') : spIsName K [v] H Q E := by
  rcases h with ⟨z, rfl, hz, ha⟩ | ⟨T, ty, p⟩
  · exact ⟨_, rfl, .inl ⟨z, rfl, by omega, q⟩⟩
  · refine ⟨_, rfl, .inr ⟨p.noStr ty, ?_⟩⟩
    have e : dName v = false := by
      cases v with
      | str z =>
        cases ty with | base b => cases b; rcases p with p | p | p | p | p | p <;> exact absurd p (by decide)
      | _ => rfl
    have := q H (Keep.refl H)
    rw [e] at this
    exact this
theorem path_any {K : PySem.W.Frag} {v : V} {H : Hp} {Q : VK} {E : XK} (h : Thing K H v) (q : ∀ H', Keep [] H H' → Q (.bl (dPath v)) H') : spIsPath K [v] H Q E := by
  rcases h with ⟨z, rfl, hz, ha⟩ | ⟨T, ty, p⟩
  · exact ⟨_, rfl, .inl ⟨z, rfl, by omega, q⟩⟩
  · refine ⟨_, rfl, .inr ⟨p.noStr ty, ?_⟩⟩
    have e : dPath v = false := by
      cases v with
      | str z =>
        cases ty with | base b => cases b; rcases p with p | p | p | p | p | p <;> exact absurd p (by decide)
      | _ => rfl
    have := q H (Keep.refl H)
    rw [e] at this
    exact this
theorem word_any {K : PySem.W.Frag} {v : V} {H : Hp} {Q : VK} {E : XK} (h : Thing K H v) (q : ∀ H', Keep [] H H' → Q (.bl (dName v)) H') : spIsWord K [v] H Q E := by
  rcases h with ⟨z, rfl, hz, ha⟩ | ⟨T, ty, p⟩
  · exact ⟨_, rfl, .inl ⟨z, rfl, by omega, ha, q⟩⟩
  · refine ⟨_, rfl, .inr ⟨p.noStr ty, ?_⟩⟩
    have e : dName v = false := by
      cases v with
      | str z =>
        cases ty with | base b => cases b; rcases p with p | p | p | p | p | p <;> exact absurd p (by decide)
      | _ => rfl
    have := q H (Keep.refl H)
    rw [e] at this
    exact this
theorem road_any {K : PySem.W.Frag} {v : V} {H : Hp} {Q : VK} {E : XK} (h : Thing K H v) (q : ∀ H', Keep [] H H' → Q (.bl (dPath v)) H') : spIsRoad K [v] H Q E := by
  rcases h with ⟨z, rfl, hz, ha⟩ | ⟨T, ty, p⟩
  · exact ⟨_, rfl, .inl ⟨z, rfl, by omega, ha, q⟩⟩
  · refine ⟨_, rfl, .inr ⟨p.noStr ty, ?_⟩⟩
    have e : dPath v = false := by
      cases v with
      | str z =>
        cases ty with | base b => cases b; rcases p with p | p | p | p | p | p <;> exact absurd p (by decide)
      | _ => rfl
    have := q H (Keep.refl H)
    rw [e] at this
    exact this
theorem thing_kind {K : PySem.W.Frag} {v : V} {H : Hp} (h : Thing K H v) : ∃ t b, TyX K H v t ∧ PySem.W.kitAny K t [.type "list", .type "tuple"] = some b := by
  rcases h with ⟨z, rfl, hz, ha⟩ | ⟨T, ty, p⟩
  · exact ⟨_, _, .base (.str z), str_seq⟩
  · exact ⟨_, _, ty, p.seq⟩
theorem shaped_bls (a b c : Bool) : SeqAt.shaped (.list [.bool a, .bool b, .bool c]) = true := rfl
theorem ok_law (T : Txt K mg) : FnOk P w K mg base CX0 6 (He.ga K "law") (fdOf K (He.ga K "law")) ["_law_script"] (spLaw K) := by
  refine T.F_law.ok sc_law (fun vs H Q E h => ?len) (fun cdv A outer s H vs Q E hr h => ?body)
  case len =>
    obtain ⟨a, ns, rfl, _⟩ := h
    rfl
  case body =>
    obtain ⟨a, ns, rfl, hS, hns, q⟩ := h
    have nd := sc_law.nd
    have hu := hu_of hr
    refine ⟨_, PSs.nox (pss_cons (ps_for PassesOwn.never rfl (pi_range1 rfl T.m_range (pa_cons (pe_callB (call_max2 rfl) (by rfl) T.m_max (by decide +kernel) (pa_cons pe_int (pa_cons (pe_callB (call_min2 rfl) (by rfl) T.m_min (by decide +kernel) (pa_cons pe_int (pa_cons (pe_callB call_len_seq (by rfl) T.m_len PySem.boot_len (pa_cons (pv 0) pa_nil)) pa_nil))) pa_nil))) pa_nil)) (pg_name (i := 1) nd rfl (Or.inl rfl))
        (pss_cons (ps_set (i := 2) nd rfl (Or.inl rfl) (pe_call (ok_law_bag T) (hr.mono (by decide)) (by rfl) T.m_law_bag T.F_law_bag.kp (bN_law_bag T.F_law_bag) .nil pass0 (pa_cons (pe_call (ok_law_cell T) (hr.mono (by decide)) (by rfl) T.m_law_cell T.F_law_cell.kp (bN_law_cell T.F_law_cell) .nil pass0 (pa_cons (pv 0) (pa_cons (pv 1) pa_nil))) pa_nil)))
        (pss_cons (ps_if (pt_not (pt_val (pe_call (ok_law_integers_right T) (hr.mono (by decide)) (by rfl) T.m_law_integers_right T.F_law_integers_right.kp (bN_law_integers_right T.F_law_integers_right) .nil pass0 (pa_cons (pv 2) pa_nil))))
          (pss_one (ps_ret (pe_bl)))
          (pss_nil))
        (pss_cons (ps_par (i := 3) (j := 4) (by rfl) nd rfl rfl (by decide) rfl rfl (pa_cons (pe_call (ok_law_word T) (hr.mono (by decide)) (by rfl) T.m_law_word T.F_law_word.kp (bN_law_word T.F_law_word) .nil pass0 (pa_cons (pv 2) (pa_cons pe_bl pa_nil))) (pa_cons (pe_call (ok_law_path T) (hr.mono (by decide)) (by rfl) T.m_law_path T.F_law_path.kp (bN_law_path T.F_law_path) .nil pass0 (pa_cons (pv 2) pa_nil)) pa_nil)) (by rfl))
        (pss_one (ps_for PassesOwn.never rfl (pi_list (pe_lst (pa_cons (pv 3) (pa_cons (pv 4) (pa_cons (pe_call (ok_law_any T) (hr.mono (by decide)) (by rfl) T.m_law_any T.F_law_any.kp (bN_law_any T.F_law_any) .nil pass0 (pa_cons (pv 2) (pa_cons (pv 3) pa_nil))) (pa_cons (pe_call (ok_law_any T) (hr.mono (by decide)) (by rfl) T.m_law_any T.F_law_any.kp (bN_law_any T.F_law_any) .nil pass0 (pa_cons (pv 2) (pa_cons (pv 4) pa_nil))) (pa_cons (pe_op op_addT pe_str (pv 3)) (pa_cons (pe_op op_mul_str (pe_slice sl_str (pv 3) po_none (po_some pe_int)) pe_int) pa_nil)))))))) (pg_name (i := 5) nd rfl (Or.inl rfl))
          (pss_cons (ps_set (i := 6) nd rfl (Or.inl rfl) (pe_lst (pa_cons (pe_callZ0 (ok_is_name T) (hr.mono (by decide)) (by rfl) T.m_is_name T.F_is_name.kp (bK3_is_name T.F_is_name) pass0 (pk_cons (pv 5) pk_nil)) (pa_cons (pe_callZ0 (ok_is_path T) (hr.mono (by decide)) (by rfl) T.m_is_path T.F_is_path.kp (bK2_is_path T.F_is_path) pass0 (pk_cons (pv 5) pk_nil)) (pa_cons (pe_callZ0 (ok_is_list T) (hr.mono (by decide)) (by rfl) T.m_is_list T.F_is_list.kp (bK1_is_list T.F_is_list) pass0 (pk_cons (pv 5) pk_nil)) pa_nil)))))
          (pss_cons (ps_set (i := 7) nd rfl (Or.inl rfl) (pe_lst (pa_cons (pe_call (ok_law_is_word T) (hr.mono (by decide)) (by rfl) T.m_law_is_word T.F_law_is_word.kp (bN_law_is_word T.F_law_is_word) .nil pass0 (pa_cons (pv 5) pa_nil)) (pa_cons (pe_call (ok_law_is_path T) (hr.mono (by decide)) (by rfl) T.m_law_is_path T.F_law_is_path.kp (bN_law_is_path T.F_law_is_path) .nil pass0 (pa_cons (pv 5) pa_nil)) (pa_cons (pe_callB call_isiT (by rfl) T.m_isinstance (by decide +kernel) (pa_cons (pv 5) (pa_cons (pe_tup (pa_cons (pe_bltn (v := .ty "list") (by rfl) T.m_list (by decide +kernel) rfl) (pa_cons (pe_bltn (v := .ty "tuple") (by rfl) T.m_tuple (by decide +kernel) rfl) pa_nil))) pa_nil))) pa_nil)))))
          (pss_one (ps_if (PW.pt (pw_or (pt_cmpR (op_neD hr.units) (pv 6) (pv 7) (nomark _)) (pw_or1 (pt_cmpR (op_neD hr.units) (pe_lc (own := [("_law_one", 8)]) (g := gName 8) rfl nd (pi_list (pv 6)) (blkOk_by (own := [("_law_one", 8)]) (N := N_law) (sc := defScope s_law) (by decide +kernel)) (fun _ _ _ _ _ => pg_name (i := 8) nd rfl (Or.inl rfl)) (fun _ _ _ _ _ => pts_one (pt_not (pt_val (pe_callB (call_isiB (K := K) rfl) (by rfl) T.m_isinstance (by decide +kernel) (pa_cons (pv 8) (pa_cons (pe_bltn (v := .ty "bool") (by rfl) T.m_bool (by decide +kernel) rfl) pa_nil)))))) (fun _ _ _ _ _ => pv 8)) (pe_lst pa_nil) (nomark _)))))
            (pss_one (ps_ret (pe_bl)))
            (pss_nil)))))))))))
      (pss_one (ps_ret (pe_cmpR (op_eqD hr.units) (pe_lst (pa_cons (pe_call (ok_is_name T) (hr.mono (by decide)) (by rfl) T.m_is_name T.F_is_name.kp (bN_is_name T.F_is_name) .nil pass0 (pa_cons pe_str pa_nil)) (pa_cons (pe_call (ok_is_path T) (hr.mono (by decide)) (by rfl) T.m_is_path T.F_is_path.kp (bN_is_path T.F_is_path) .nil pass0 (pa_cons pe_str pa_nil)) (pa_cons (pe_call (ok_is_path T) (hr.mono (by decide)) (by rfl) T.m_is_path T.F_is_path.kp (bN_is_path T.F_is_path) .nil pass0 (pa_cons pe_str pa_nil)) (pa_cons (pe_call (ok_is_name T) (hr.mono (by decide)) (by rfl) T.m_is_name T.F_is_name.kp (bN_is_name T.F_is_name) .nil pass0 (pa_cons pe_str pa_nil)) pa_nil))))) (pe_lst (pa_cons pe_bl (pa_cons pe_bl (pa_cons pe_bl (pa_cons pe_bl pa_nil))))) (nomark _))))), ?_⟩
    walk_at "ss"
    refine ⟨a, _, rfl, .inl hS, ?_⟩
    walk_at "ss"
    rw [len_ints]
    refine ⟨by split <;> split <;> omega, by split <;> split <;> omega, ?_⟩
    generalize hN : (if (if (ns.length : Int) < 8 then (ns.length : Int) else 8) > 3 then if (ns.length : Int) < 8 then (ns.length : Int) else 8 else 3).toNat = N
    have hN10 : N ≤ 8 := by
      rw [← hN]
      split <;> split <;> omega
    refine for_rng (fun i σ' H' => Hold <| ∃ y1 y2 y3 y4 y5 y6 y7 y8, σ' = [some (.ref a), y1, y2, y3, y4, y5, y6, y7, y8] ∧ SqL K H' a (ns.map V.int)) ?_ ?_ ?_
    · exact ⟨_, _, _, _, _, _, _, _, rfl, hS⟩
    · rintro i σ' H0 hi ⟨y1, y2, y3, y4, y5, y6, y7, y8, rfl, hS0⟩
      walk_at "ss"
      refine cell_go hS0 (by omega) fun r0 => ?_
      walk_at "ss"
      refine bag_go fun b ob hb hB => ?_
      have k0 : Keep [b] H0 (upd H0 b ob) := Keep.new hb
      generalize upd H0 b ob = H1 at hB k0 ⊢
      walk_at "ss"
      refine ⟨b, _, rfl, hB, by omega, fun H2 k1 hB2 => ?_⟩
      walk_at "ss"
      refine word_go hB2 (by omega) fun z H3 hz hza k2 hB3 => ?_
      walk_at "ss"
      refine ⟨b, _, rfl, hB3, by omega, fun y H4 hy hya k3 hB4 => ?_⟩
      walk_at "ss"
      refine ⟨b, z, _, rfl, hB4, by omega, by omega, hza, fun v1 H5 hv1 k4 hB5 => ?_⟩
      walk_at "ss"
      refine ⟨b, y, _, rfl, hB5, by omega, by omega, hya, fun v2 H6 hv2 k5 hB6 => ?_⟩
      have hsl : (Str.ofString "/").length = 1 := rfl
      have hc8 := cutS_length z none (some 8)
      walk_at "ss"
      refine ⟨_, _, rfl, rfl, ⟨by decide, by decide, by show _ * 2 ≤ _; omega⟩, ?_⟩
      walk_at "ss"
      intro p1 hp1
      have hall : ∀ v ∈ [V.str z, V.str y, v1, v2, V.str (Str.ofString "/" ++ z), V.str (Txt.mul (cutS z none (some 8)) 2)], Thing K (upd H6 p1 (.lst [V.str z, V.str y, v1, v2, V.str (Str.ofString "/" ++ z), V.str (Txt.mul (cutS z none (some 8)) 2)])) v := by
        simp only [List.forall_mem_cons]
        exact ⟨thing_str (by omega) hza, thing_str (by omega) hya, (hv1.keepB k5 hB5 hB6).keep (Keep.new hp1), hv2.keep (Keep.new hp1), thing_str (by rw [app_len]; omega) ((asc_of (by decide)).app hza),
          thing_str (by rw [mul_len (by decide)]; show 2 * _ ≤ _; omega) ((hza.cutS _ _).mul (by decide)), fun _ h => by cases h⟩
      have k6 : Keep [b] H0 (upd H6 p1 (.lst [V.str z, V.str y, v1, v2, V.str (Str.ofString "/" ++ z), V.str (Txt.mul (cutS z none (some 8)) 2)])) := (((((k0.trans k1).trans k2).trans k3).trans k4).trans k5).trans (Keep.new hp1)
      have e1 : upd H6 p1 (.lst [V.str z, V.str y, v1, v2, V.str (Str.ofString "/" ++ z), V.str (Txt.mul (cutS z none (some 8)) 2)]) p1 = some (.lst [V.str z, V.str y, v1, v2, V.str (Str.ofString "/" ++ z), V.str (Txt.mul (cutS z none (some 8)) 2)]) := upd_same
      generalize upd H6 p1 (.lst [V.str z, V.str y, v1, v2, V.str (Str.ofString "/" ++ z), V.str (Txt.mul (cutS z none (some 8)) 2)]) = H7 at hall k6 e1 ⊢
      generalize [V.str z, V.str y, v1, v2, V.str (Str.ofString "/" ++ z), V.str (Txt.mul (cutS z none (some 8)) 2)] = things at hall e1
      refine ⟨p1, rfl, ⟨_, SqL.of e1⟩, ?_⟩
      refine for_lst (xs := things) (fun j σ' H' => Hold <| ∃ y5 y6 y7 y8, σ' = [some (.ref a), some (.int (0 + (i : Nat))), some (.ref b), some (.str z), some (.str y), y5, y6, y7, y8] ∧ Keep [] H7 H') ?_ ?_ ?_ ?_
      · exact ⟨_, _, _, _, rfl, Keep.refl _⟩
      · rintro j σ' H' _ ⟨_, _, _, _, _, k⟩
        exact SqL.of (k.get e1 (by simp))
      · rintro j v σ' H8 hv ⟨y5, y6, y7, y8, rfl, k7⟩
        have ht := (hall v (List.mem_of_getElem? hv)).keep k7
        walk_at "ss"
        refine name_any ht fun H9 j1 => ?_
        have ht := ht.keep j1
        walk_at "ss"
        refine path_any ht fun H10 j2 => ?_
        have ht := ht.keep j2
        obtain ⟨t, bb, ty, hk⟩ := thing_kind ht
        walk_at "ss"
        refine ⟨v, t, bb, rfl, ty, hk, fun H11 j3 => ?_⟩
        have ht := ht.keep j3
        walk_at "ss"
        intro p2 hp2
        have ht := ht.keep (Keep.new (o := .lst [V.bl (dName v), V.bl (dPath v), V.bl bb]) hp2)
        have j4 : Keep [] H8 (upd H11 p2 (.lst [V.bl (dName v), V.bl (dPath v), V.bl bb])) := ((j1.trans j2).trans j3).trans (Keep.new hp2)
        have e2 : upd H11 p2 (.lst [V.bl (dName v), V.bl (dPath v), V.bl bb]) p2 = some (.lst [V.bl (dName v), V.bl (dPath v), V.bl bb]) := upd_same
        have ty2 := tyX_keep ty (j3.trans (Keep.new (o := .lst [V.bl (dName v), V.bl (dPath v), V.bl bb]) hp2))
        generalize upd H11 p2 (.lst [V.bl (dName v), V.bl (dPath v), V.bl bb]) = H12 at ht j4 e2 ty2 ⊢
        walk_at "ss"
        refine word_any ht fun H13 j5 => ?_
        have ht := ht.keep j5
        walk_at "ss"
        refine road_any ht fun H14 j6 => ?_
        walk_at "ss"
        intro p3 hp3
        walk_at "ss"
        refine w_isiT2 upd_same (tyX_keep ty2 ((j5.trans j6).trans (Keep.new hp3))) hk ?_
        walk_at "ss"
        intro p4 hp4
        walk_at "ss"
        have j7 : Keep [] H12 (upd (upd H14 p3 (.tup [V.ty "list", V.ty "tuple"])) p4 (.lst [V.bl (dName v), V.bl (dPath v), V.bl bb])) := ((j5.trans j6).trans (Keep.new hp3)).trans (Keep.new hp4)
        have e4 : upd (upd H14 p3 (.tup [V.ty "list", V.ty "tuple"])) p4 (.lst [V.bl (dName v), V.bl (dPath v), V.bl bb]) p4 = some (.lst [V.bl (dName v), V.bl (dPath v), V.bl bb]) := upd_same
        generalize upd (upd H14 p3 (.tup [V.ty "list", V.ty "tuple"])) p4 (.lst [V.bl (dName v), V.bl (dPath v), V.bl bb]) = H15 at j7 e4 ⊢
        have e5 := j7.get e2 (by simp)
        have dp : ∀ p, H15 p = some (.lst [V.bl (dName v), V.bl (dPath v), V.bl bb]) → Dp K H15 (.ref p) (.list [.bool (dName v), .bool (dPath v), .bool bb]) := fun p e => .lst (SqL.of e) (.cons (.bl _) (.cons (.bl _) (.cons (.bl _) .nil)))
        refine w_neD (dp _ e5) (dp _ e4) (shaped_bls _ _ _) (shaped_bls _ _ _) ?_
        rw [eqv_self (shaped_bls _ _ _)]
        walk_at "ss"
        refine ⟨⟨_, SqL.of e5⟩, fun p5 hp5 => ?_⟩
        refine lc_lst (xs := [V.bl (dName v), V.bl (dPath v), V.bl bb]) (fun j acc H' => Hold (Keep [] H15 H' ∧ acc = [])) ?_ ?_ ?_ ?_
        · exact ⟨Keep.new hp5, rfl⟩
        · rintro j acc H' _ ⟨k, _⟩ _
          exact SqL.of (k.get e5 (by simp))
        · rintro j acc x H' hx ⟨k, rfl⟩ e
          obtain ⟨bx, rfl⟩ : ∃ bx, x = V.bl bx := by
            have := List.mem_of_getElem? hx
            simp only [List.mem_cons, List.not_mem_nil, or_false] at this
            rcases this with rfl | rfl | rfl <;> exact ⟨_, rfl⟩
          walk_at "ss"
          refine w_isi (.base (.bl _)) (b := true) (by decide +kernel) ?_
          walk_at "ss"
          exact ⟨[], e, k, rfl⟩
        rintro acc H16 ⟨j8, rfl⟩ e6
        walk_at "ss"
        intro p6 hp6
        refine w_neD (.lst (SqL.of (stay e6 hp6)) .nil) (.lst (SqL.of upd_same) .nil) shaped_nil shaped_nil ?_
        rw [eqv_self shaped_nil]
        walk_at "ss"
        exact ⟨_, _, _, _, rfl, (((k7.trans j4).trans j7).trans j8).trans (Keep.new hp6)⟩
      rintro σ' H8 ⟨y5, y6, y7, y8, rfl, k7⟩
      exact ⟨_, _, _, _, _, _, _, _, rfl, ((k6.fresh (by simpa using hb)).trans k7).sqL hS0⟩
    · rintro σ' H0 ⟨y1, y2, y3, y4, y5, y6, y7, y8, rfl, hS0⟩
      walk_at "ss"
      refine isName_go (z := "root") (by decide) fun H1 k1 => ?_
      walk_at "ss"
      refine isPath_go (z := "/") (by decide) fun H2 k2 => ?_
      walk_at "ss"
      refine isPath_go (z := "") (by decide) fun H3 k3 => ?_
      walk_at "ss"
      refine isName_go (z := "") (by decide) fun H4 k4 => ?_
      walk_at "ss"
      intro p1 hp1
      walk_at "ss"
      intro p2 hp2
      have e1 : nameL (tl "root") = true := by decide
      have e2 : pathL (tl "/") = true := by decide
      have e3 : pathL (tl "") = false := by decide
      have e4 : nameL (tl "") = false := by decide
      rw [e1, e2, e3, e4] at hp2 ⊢
      refine w_eqD (d := .list [.bool true, .bool true, .bool false, .bool false]) (e := .list [.bool true, .bool true, .bool false, .bool false]) (.lst (SqL.of (stay upd_same hp2)) (.cons (.bl _) (.cons (.bl _) (.cons (.bl _) (.cons (.bl _) .nil))))) (.lst (SqL.of upd_same) (.cons (.bl _) (.cons (.bl _) (.cons (.bl _) (.cons (.bl _) .nil))))) rfl rfl ?_
      rw [eqv_self rfl]
      exact q _
end
def d_is_integer : He.DefD := ⟨("is_integer", none), "is_integer", "is_integer", defArgs s_is_integer, defBody s_is_integer, defScope s_is_integer, [], []⟩
def d_is_name : He.DefD := ⟨("is_name", none), "is_name", "is_name", defArgs s_is_name, defBody s_is_name, defScope s_is_name, [], []⟩
def d_is_list : He.DefD := ⟨("is_list", none), "is_list", "is_list", defArgs s_is_list, defBody s_is_list, defScope s_is_list, [], []⟩
def d_is_path : He.DefD := ⟨("is_path", none), "is_path", "is_path", defArgs s_is_path, defBody s_is_path, defScope s_is_path, [], []⟩
def d_law_cell : He.DefD := ⟨("_law_cell", none), "_law_cell", "_law_cell", defArgs s_law_cell, defBody s_law_cell, defScope s_law_cell, [], []⟩
def d_law_bag : He.DefD := ⟨("_law_bag", none), "_law_bag", "_law_bag", defArgs s_law_bag, defBody s_law_bag, defScope s_law_bag, [], []⟩
def d_law_take : He.DefD := ⟨("_law_take", none), "_law_take", "_law_take", defArgs s_law_take, defBody s_law_take, defScope s_law_take, [], []⟩
def d_law_word : He.DefD := ⟨("_law_word", none), "_law_word", "_law_word", defArgs s_law_word, defBody s_law_word, defScope s_law_word, [], []⟩
def d_law_is_word : He.DefD := ⟨("_law_is_word", none), "_law_is_word", "_law_is_word", defArgs s_law_is_word, defBody s_law_is_word, defScope s_law_is_word, [], []⟩
def d_law_path : He.DefD := ⟨("_law_path", none), "_law_path", "_law_path", defArgs s_law_path, defBody s_law_path, defScope s_law_path, [], []⟩
def d_law_is_path : He.DefD := ⟨("_law_is_path", none), "_law_is_path", "_law_is_path", defArgs s_law_is_path, defBody s_law_is_path, defScope s_law_is_path, [], []⟩
def d_law_any : He.DefD := ⟨("_law_any", none), "_law_any", "_law_any", defArgs s_law_any, defBody s_law_any, defScope s_law_any, [], []⟩
def d_law_integers_right : He.DefD := ⟨("_law_integers_right", none), "_law_integers_right", "_law_integers_right", defArgs s_law_integers_right, defBody s_law_integers_right, defScope s_law_integers_right, [], []⟩
def d_law : He.DefD := ⟨("law", none), "law", "law", defArgs s_law, defBody s_law, defScope s_law, [], []⟩
def fn : List He.DefD := [d_is_integer, d_is_name, d_is_list, d_is_path, d_law_cell, d_law_bag, d_law_take, d_law_word, d_law_is_word, d_law_path, d_law_is_path, d_law_any, d_law_integers_right, d_law]
def fa : List He.Fa := [.free "all", .free "bool", .free "int", .free "isinstance", .free "len", .free "list", .free "max", .free "min", .free "range", .free "str", .free "tuple", .glo "is_integer", .glo "is_name", .glo "is_list", .glo "is_path", .glo "_law_cell", .glo "_law_bag", .glo "_law_take", .glo "_law_word", .glo "_law_is_word", .glo "_law_path", .glo "_law_is_path", .glo "_law_any", .glo "_law_integers_right", .glo "law", .int "MOST_LETTERS" (8), .str "LETTERS" "abcdefghijklmnopqrstuvwxyz", .str "GROUND" "/"]
abbrev R : PySem.W.OpenRow := PySem.W.OpenLaw.row PySem.Challenge.rw_filerights_k01_integers_names_paths
abbrev hk : PySem.W.Hook := He.hookD 4 fa fn
def ob (s : PySem.W.SharedT) : He.AlD := He.obsDG 4 fa fn (HandSHeadRun.getT s)
theorem ob_eq (s : PySem.W.SharedT) : ob s = hk.obs s.abs := He.obsDG_eq (HandSHeadRun.getT_eq s)
abbrev loose : List Str := ["MOST_LETTERS", "LETTERS", "GROUND", "is_integer", "is_name", "is_list", "is_path", "_law_cell", "_law_bag", "_law_take", "_law_word", "_law_is_word", "_law_path", "_law_is_path", "_law_any", "_law_integers_right"]
theorem run (w : World) : HandSHeadRun.RunEq R (PySem.W.view R.prog [18]) hk ob 2000 loose w := by
  intro os
  kernel_rfl
theorem txt_of {K : PySem.W.Frag} {h : Heap} {mg : Str → Option Value} (X : K.In h) (G : h.Ns mainGlobals mg) (c : He.SaysD fa fn K) : Txt K mg :=
  ⟨He.free_ok X G (c.fact 0 (f := .free "all") rfl),
  He.free_ok X G (c.fact 1 (f := .free "bool") rfl),
  He.free_ok X G (c.fact 2 (f := .free "int") rfl),
  He.free_ok X G (c.fact 3 (f := .free "isinstance") rfl),
  He.free_ok X G (c.fact 4 (f := .free "len") rfl),
  He.free_ok X G (c.fact 5 (f := .free "list") rfl),
  He.free_ok X G (c.fact 6 (f := .free "max") rfl),
  He.free_ok X G (c.fact 7 (f := .free "min") rfl),
  He.free_ok X G (c.fact 8 (f := .free "range") rfl),
  He.free_ok X G (c.fact 9 (f := .free "str") rfl),
  He.free_ok X G (c.fact 10 (f := .free "tuple") rfl),
  He.glo_ok X G (c.fact 11 (f := .glo "is_integer") rfl),
  He.glo_ok X G (c.fact 12 (f := .glo "is_name") rfl),
  He.glo_ok X G (c.fact 13 (f := .glo "is_list") rfl),
  He.glo_ok X G (c.fact 14 (f := .glo "is_path") rfl),
  He.glo_ok X G (c.fact 15 (f := .glo "_law_cell") rfl),
  He.glo_ok X G (c.fact 16 (f := .glo "_law_bag") rfl),
  He.glo_ok X G (c.fact 17 (f := .glo "_law_take") rfl),
  He.glo_ok X G (c.fact 18 (f := .glo "_law_word") rfl),
  He.glo_ok X G (c.fact 19 (f := .glo "_law_is_word") rfl),
  He.glo_ok X G (c.fact 20 (f := .glo "_law_path") rfl),
  He.glo_ok X G (c.fact 21 (f := .glo "_law_is_path") rfl),
  He.glo_ok X G (c.fact 22 (f := .glo "_law_any") rfl),
  He.glo_ok X G (c.fact 23 (f := .glo "_law_integers_right") rfl),
  He.glo_ok X G (c.fact 24 (f := .glo "law") rfl),
  (let ⟨_, F⟩ := c.def_ 0 (d := d_is_integer) rfl; F.toFd),
  (let ⟨_, F⟩ := c.def_ 1 (d := d_is_name) rfl; F.toFd),
  (let ⟨_, F⟩ := c.def_ 2 (d := d_is_list) rfl; F.toFd),
  (let ⟨_, F⟩ := c.def_ 3 (d := d_is_path) rfl; F.toFd),
  (let ⟨_, F⟩ := c.def_ 4 (d := d_law_cell) rfl; F.toFd),
  (let ⟨_, F⟩ := c.def_ 5 (d := d_law_bag) rfl; F.toFd),
  (let ⟨_, F⟩ := c.def_ 6 (d := d_law_take) rfl; F.toFd),
  (let ⟨_, F⟩ := c.def_ 7 (d := d_law_word) rfl; F.toFd),
  (let ⟨_, F⟩ := c.def_ 8 (d := d_law_is_word) rfl; F.toFd),
  (let ⟨_, F⟩ := c.def_ 9 (d := d_law_path) rfl; F.toFd),
  (let ⟨_, F⟩ := c.def_ 10 (d := d_law_is_path) rfl; F.toFd),
  (let ⟨_, F⟩ := c.def_ 11 (d := d_law_any) rfl; F.toFd),
  (let ⟨_, F⟩ := c.def_ 12 (d := d_law_integers_right) rfl; F.toFd),
  (let ⟨_, F⟩ := c.def_ 13 (d := d_law) rfl; F.toFd),
  He.int_ok X G (c.fact 25 (f := .int "MOST_LETTERS" (8)) rfl),
  He.str_ok X G (c.fact 26 (f := .str "LETTERS" "abcdefghijklmnopqrstuvwxyz") rfl),
  He.str_ok X G (c.fact 27 (f := .str "GROUND" "/") rfl)⟩
theorem facts {P : Program} {w : World} {K : PySem.W.Frag} {h : Heap} {mg : Str → Option Value} {f : Addr} (X : K.In h) (G : h.Ns mainGlobals mg) (hfa : mg ("law" : Str) = some (.ref f)) (c : He.SaysD fa fn K) :
    ∃ fd : FuncData, (∀ (s : Shared) (v : Value), BindsTo s fd ⟨[v], []⟩ [("_law_script", v)]) ∧ ∀ base : Heap, K.In base → base.Ns mainGlobals mg → FnOk P w K mg base CX0 6 f fd ["_law_script"] (spLaw K) := by
  have T := txt_of X G c
  have e := hfa.symm.trans T.m_law
  cases e
  have b := FunD.bindsA (ps := ["_law_script"]) T.F_law fun _ _ _ _ _ _ us hl => match us, hl with | [_], _ => rfl
  exact ⟨fdOf K (He.ga K "law"), fun s v => b s [v] rfl, fun base _ _ => ok_law T⟩
end K01
open PySem PySem.W PySem.Calls PyProof.Rows
set_option maxHeartbeats 0 in
theorem PySem.Challenge.cw_filerights_k01_integers_names_paths_holds : PySem.Challenge.rw_filerights_k01_integers_names_paths.Holds := by
  w_on; o_law
  refine HandSHeadRun.head_any (r := OpenLaw.row PySem.Challenge.rw_filerights_k01_integers_names_paths) (q := view (OpenLaw.row PySem.Challenge.rw_filerights_k01_integers_names_paths).prog [18]) (H := K01.hk) (ob := K01.ob) (M := 2000) (loose := K01.loose) (d := HandSHeadRun.topDef (OpenLaw.row PySem.Challenge.rw_filerights_k01_integers_names_paths).prog 18) (kwd := []) K01.ob_eq
    (by kernel_rfl) (fun s => by kernel_rfl) K01.run (by kernel_rfl) (by kernel_rfl) (by kernel_rfl) (by rfl) (by first | assumption | decide +kernel) (by decide +kernel) ⟨rfl, rfl, rfl, rfl, rfl, by decide +kernel⟩ ?hw ?hc
  case hw => w_witness2
  case hc =>
    refine L2.walk_ofE (l := PySem.Challenge.rw_filerights_k01_integers_names_paths) (n := 63) (k := 6) (x := "_law_script") (CX := L2.CX0) rfl (by decide) (by kernel_rfl) ⟨rfl, by decide, by decide⟩ ?F (fun _ _ _ _ z => z)
    intro w mg fa h Y G hmg0
    obtain ⟨K, KX, c⟩ := Y
    have hmg : mg ("law" : PySem.Str) = some (.ref fa) := by
      have e : (HandSHeadRun.topDef (OpenLaw.row PySem.Challenge.rw_filerights_k01_integers_names_paths).prog 18).name = ("law" : PySem.Str) := by kernel_rfl
      rw [← e]
      exact hmg0
    obtain ⟨fd, hb, hF⟩ := K01.facts (P := (PySem.Challenge.rw_filerights_k01_integers_names_paths).prog) (w := w) KX G hmg c
    exact ⟨K, fd, K01.spLaw K, KX, hb, fun H a ns hl _ hS => ⟨a, ns, rfl, hS, hl, fun _ => rfl⟩, hF⟩
