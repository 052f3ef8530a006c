import PyProof.Rows.All
import Wide.All
import OpenK.AllK
import Wide.FinOn
import KE.KStateDown
import Lean
import HandS.ForMost
import HandS.Flow
import HandS.IsInst
import HandS.Defaults
import HandS.Head0
import HandS.Head1
import HandS.Head2
import HandS.HeadEnd
import HandS.HeadHook1
import HandS.HeadHook2
import HandS.Evl
import HandS.Walk
import HandS.Replace
import KE.IntTextLaws
import HandS.Star
import HandS.Style
import KE.KUnpackStar
import PySem.Challenge.RW_filerights_k03_paths_taken_apart
set_option Elab.async false
set_option linter.all false
set_option maxRecDepth 100000
set_option maxHeartbeats 4000000
namespace Fr
open PySem PySem.Spec PyProof.Rows L2
abbrev tCut := Evl.tCut
/-- a word of one's own: the steps don't open it -/
def Hold (p : Prop) : Prop := p
def mkS (l : List Nat) : Str := ⟨l.toArray⟩
theorem pss_cut {X : Cx} {st : Stmt} {rest : List Stmt} {t u : TS} (h1 : PS X st t) (h2 : PSs X rest u) : PSs X (st :: rest) (tCut t u) := Evl.pss_cut h1 h2

/-! ### heaps: all but the addresses of S stays, nothing goes -/
def Keep (S : List Addr) (H H' : Hp) : Prop := ∀ a o, H a = some o → (∃ o', H' a = some o') ∧ (a ∉ S → H' a = some o)
theorem Keep.refl {S : List Addr} (H : Hp) : Keep S H H := fun _ o h => ⟨⟨o, h⟩, fun _ => h⟩
theorem Keep.trans {S : List Addr} {H H1 H2 : Hp} (x : Keep S H H1) (y : Keep S H1 H2) : Keep S H H2 := fun a o h => by
  obtain ⟨⟨o1, h1⟩, k1⟩ := x a o h
  exact ⟨(y a o1 h1).1, fun n => (y a o (k1 n)).2 n⟩
theorem Keep.mono {S S' : List Addr} {H H1 : Hp} (x : Keep S H H1) (h : ∀ a, a ∈ S → a ∈ S') : Keep S' H H1 := fun a o e => ⟨(x a o e).1, fun n => (x a o e).2 fun z => n (h a z)⟩
theorem Keep.free {S : List Addr} {H H1 : Hp} (x : Keep S H H1) {p : Addr} (h : H1 p = none) : H p = none := by
  cases e : H p with
  | none => rfl
  | some o =>
    obtain ⟨⟨o1, h1⟩, _⟩ := x p o e
    rw [h1] at h
    cases h
theorem Keep.get {S : List Addr} {H H1 : Hp} (x : Keep S H H1) {p : Addr} {o : HO} (h : H p = some o) (n : p ∉ S) : H1 p = some o := (x p o h).2 n
theorem Keep.new {S : List Addr} {H : Hp} {p : Addr} {o : HO} (h : H p = none) : Keep S H (upd H p o) := fun a u e => by
  have n : a ≠ p := ne_of_none e h
  rw [upd_ne n]
  exact ⟨⟨u, e⟩, fun _ => e⟩
theorem Keep.set {S : List Addr} {H : Hp} {p : Addr} {o : HO} (h : p ∈ S) : Keep S H (upd H p o) := fun a u e => by
  by_cases n : a = p
  · subst n
    rw [upd_same]
    exact ⟨⟨o, rfl⟩, fun z => absurd h z⟩
  · rw [upd_ne n]
    exact ⟨⟨u, e⟩, fun _ => e⟩

/-! ### a law's bag of draws: its third number is at most n -/
def Bag (H : Hp) (b : Addr) (n : Nat) : Prop := ∃ x y z : Int, H b = some (.lst [.int x, .int y, .int z]) ∧ 0 ≤ x ∧ 0 ≤ y ∧ y < 2147483648 ∧ 0 ≤ z ∧ z ≤ n
theorem Bag.mono {H : Hp} {b : Addr} {n m : Nat} (h : Bag H b n) (l : n ≤ m) : Bag H b m := by
  obtain ⟨x, y, z, e, h1, h2, h3, h4, h5⟩ := h
  exact ⟨x, y, z, e, h1, h2, h3, h4, by omega⟩
def spTake : Sp := fun vs H Q _ => ∃ (b : Addr) (m : Int) (n : Nat), vs = [.ref b, .int m] ∧ 0 < m ∧ m < 1073741824 ∧ Bag H b n ∧ n < 1073741824 ∧
  ∀ r H', 0 ≤ r → r < m → Keep [b] H H' → Bag H' b (n + 1) → Q (.int r) H'

/-! ### readings, one step at a time -/
section
variable {K : PySem.W.Frag} {σ : L2.St} {H : Hp} {Q : VK} {D : Ends} {v x y : V} {ta tb tc : TE} {t u z : TS} {tt tu : TT} {tr : TA} {i : Nat} {p : Addr} {xs ys : List V} {a b : Int} {k : Bool} {QA : List V → Hp → Prop} {QT : Bool → Hp → Prop}
theorem w_seq (h : t { D with nx := u D } σ H) : tSeq t u D σ H := h
theorem w_next (h : D.nx σ H) : tNext D σ H := h
theorem w_brk (h : D.bk σ H) : tBreak D σ H := h
theorem w_ret (h : ta σ H D.rt) : tRet ta D σ H := h
theorem w_retN (h : D.rt .non H) : tRetN D σ H := h
theorem w_drop (h : ta σ H fun _ H1 => D.nx σ H1) : tDrop ta D σ H := h
theorem w_ifS (h : tt σ H fun b H1 => if b = true then t D σ H1 else u D σ H1) : tIfS tt t u D σ H := h
theorem w_asg {g : TG} (h : ta σ H fun x H1 => g x σ H1 D.nx) : tAsg ta g D σ H := h
theorem w_gname {q : L2.St → Hp → Prop} (h : q (σ.set i (some v)) H) : gName i v σ H q := h
theorem w_gsub {q : L2.St → Hp → Prop} {ts : TSet} (h : ta σ H fun o H1 => tb σ H1 fun i H2 => ts o i v H2 fun H3 => q σ H3) : gSub ta tb ts v σ H q := h
theorem w_setL {q : Hp → Prop} {j : Nat} (h : H p = some (.lst xs)) (hj : ixN xs.length a = some j) (k : q (upd H p (.lst (xs.set j v)))) : rSetL (.ref p) (.int a) v H q := ⟨p, xs, a, j, rfl, rfl, h, hj, k⟩
theorem w_gtup {n : Nat} {gs : TGs} {q : L2.St → Hp → Prop} (h : SqT K H p xs) (hl : xs.length = n) (k : gs xs σ H q) : gTup K n gs (.ref p) σ H q := ⟨p, xs, rfl, h, hl, k⟩
theorem w_gcons {g : TG} {gs : TGs} {q : L2.St → Hp → Prop} (h : g v σ H fun σ' H' => gs xs σ' H' q) : gCons g gs (v :: xs) σ H q := ⟨v, xs, rfl, h⟩
theorem w_gnil {q : L2.St → Hp → Prop} (h : q σ H) : gNil [] σ H q := ⟨rfl, h⟩
theorem w_par {j : Nat} (h : tr σ H fun vs H1 => ∃ v w, vs = [v, w] ∧ D.nx ((σ.set i (some v)).set j (some w)) H1) : tPar i j tr D σ H := h
theorem w_aug {ti : TIp} (hv : σ[i]? = some (some x)) (h : ta σ H fun y H1 => ti x y H1 fun z H2 => D.nx (σ.set i (some z)) H2) : tAug i ta ti D σ H := ⟨x, hv, h⟩
theorem w_ipI {f : Int → Int → Int} (h : Q (.int (f a b)) H) : ipI f (.int a) (.int b) H Q := ⟨a, b, rfl, rfl, h⟩
theorem w_var (hv : σ[i]? = some (some v)) (h : Q v H) : tVar i σ H Q := ⟨v, hv, h⟩
theorem w_c (h : Q v H) : tC v σ H Q := h
theorem w_op {r : R2} (h : ta σ H fun x H1 => tb σ H1 fun y H2 => r x y H2 Q) : tOp r ta tb σ H Q := h
theorem w_un {r : V → Hp → VK → Prop} (h : ta σ H fun x H1 => r x H1 Q) : tUn r ta σ H Q := h
theorem w_I0 {g : Int → Int → V} (h : Q (g a b) H) : rI0 g (.int a) (.int b) H Q := ⟨a, b, rfl, rfl, h⟩
theorem w_I {C : Int → Int → Prop} {g : Int → Int → V} (hc : C a b) (h : Q (g a b) H) : rI C g (.int a) (.int b) H Q := ⟨a, b, rfl, rfl, hc, h⟩
theorem w_U {g : Int → V} (h : Q (g a) H) : rU g (.int a) H Q := ⟨a, rfl, h⟩
theorem w_eq (hs : scal x y = true) (h : Q (.bl (decide (x = y))) H) : rEq x y H Q := ⟨hs, h⟩
theorem w_ne (hs : scal x y = true) (h : Q (.bl (!decide (x = y))) H) : rNe x y H Q := ⟨hs, h⟩
theorem w_ixL (h : H p = some (.lst xs)) (ha : atI xs a = some v) (q : Q v H) : rIxL K (.ref p) (.int a) H Q := ⟨p, xs, a, v, rfl, rfl, SqL.of h, ha, q⟩
theorem w_ixLS (h : SqL K H p xs) (ha : atI xs a = some v) (q : Q v H) : rIxL K (.ref p) (.int a) H Q := ⟨p, xs, a, v, rfl, rfl, h, ha, q⟩
theorem w_ixT (h : SqT K H p xs) (ha : atI xs a = some v) (q : Q v H) : rIxT K (.ref p) (.int a) H Q := ⟨p, xs, a, v, rfl, rfl, h, ha, q⟩
theorem w_ixS {z : Str} {c : Nat} (h : z.length ≤ sizeLine) (ha : atI z.cps.toList a = some c) (q : Q (.str (mkS [c])) H) : rIxS (.str z) (.int a) H Q := ⟨z, a, c, rfl, rfl, h, ha, q⟩
theorem w_nil (h : QA [] H) : tNil σ H QA := h
theorem w_cons (h : ta σ H fun x H1 => tr σ H1 fun xs H2 => QA (x :: xs) H2) : tCons ta tr σ H QA := h
theorem w_cb {r : List V → Hp → VK → Prop} (h : tr σ H fun vs H1 => r vs H1 Q) : tCB r tr σ H Q := h
theorem w_call {sp : Sp} {dvs : List V} {E : XK} (h : tr σ H fun vs H1 => sp (vs ++ dvs) H1 Q E) : tCall sp dvs E tr σ H Q := h
theorem w_if (h : tt σ H fun c H1 => if c = true then ta σ H1 Q else tb σ H1 Q) : tIf tt ta tb σ H Q := h
theorem w_lst (h : tr σ H fun xs H1 => xs.length ≤ sizeLine ∧ ∀ p, H1 p = none → Q (.ref p) (upd H1 p (.lst xs))) : tLst tr σ H Q := h
theorem w_tup (h : tr σ H fun xs H1 => xs.length ≤ sizeLine ∧ ∀ p, H1 p = none → Q (.ref p) (upd H1 p (.tup xs))) : tTup tr σ H Q := h
theorem w_test (h : ta σ H fun x H' => ∃ k, x = .bl k ∧ QT k H') : tTest ta σ H QT := h
theorem w_B (h : ta σ H fun x H' => ∃ k, x = .bl k ∧ QT k H') : tB ta σ H QT := h
theorem w_and (h : tt σ H fun c H1 => if c = true then tu σ H1 QT else QT false H1) : tAnd tt tu σ H QT := h
theorem w_or (h : tt σ H fun c H1 => if c = true then QT true H1 else tu σ H1 QT) : tOr tt tu σ H QT := h
theorem w_not (h : tt σ H fun c H1 => QT (!c) H1) : tNot tt σ H QT := h
theorem w_yes (h : QT true H) : tYes σ H QT := h
theorem w_andV (h : ta σ H fun x H1 => ∃ c, x = .bl c ∧ if c = true then tb σ H1 Q else Q (.bl false) H1) : tAndV ta tb σ H Q := h
theorem w_orV (h : ta σ H fun x H1 => ∃ c, x = .bl c ∧ if c = true then Q (.bl true) H1 else tb σ H1 Q) : tOrV ta tb σ H Q := h
theorem w_notV (h : ta σ H fun x H1 => ∃ c, x = .bl c ∧ Q (.bl (!c)) H1) : tNotV ta σ H Q := h
theorem w_orT (h : ta σ H fun x H1 => ∃ k, TruV K x H1 k ∧ if k = true then Q x H1 else tb σ H1 Q) : tOrT K ta tb σ H Q := h
theorem w_chain {r r' : R2} (h : ta σ H fun x H1 => tb σ H1 fun y H2 => r x y H2 fun z H3 => ∃ k, z = .bl k ∧ (if k = true then tc σ H3 fun w' H4 => r' y w' H4 Q else Q (.bl false) H3)) : tChain r r' ta tb tc σ H Q := h
theorem w_m1 {r : V → List V → Hp → VK → Prop} (h : ta σ H fun x H1 => (∃ a, x = .str a) ∧ tb σ H1 fun y H2 => r x [y] H2 Q) : tM1 r ta tb σ H Q := h
theorem w_isS {z : Str} {P : Prop} (h : P) : (∃ a, V.str z = .str a) ∧ P := ⟨⟨z, rfl⟩, h⟩
theorem w_bm {T : String} {r : V → List V → Hp → VK → Prop} (h : ta σ H fun x H1 => tyV K T x H1 ∧ tr σ H1 fun xs H2 => r x xs H2 Q) : tBM K T r ta tr σ H Q := h
theorem w_bm0 {T : String} {r : V → List V → Hp → VK → Prop} (h : ta σ H fun x H1 => tyV K T x H1 ∧ r x [] H1 Q) : tBM0 K T r ta σ H Q := h
theorem w_tyL {P : Prop} (h : H p = some (.lst xs)) (q : P) : tyV K "list" (.ref p) H ∧ P := ⟨.inl ⟨rfl, xs, SqL.of h⟩, q⟩
theorem w_sl {r : V → Option Int → Option Int → Hp → VK → Prop} {tl th : TO} (h : ta σ H fun x H1 => tl σ H1 fun l H2 => th σ H2 fun u H3 => r x l u H3 Q) : tSl r ta tl th σ H Q := h
theorem w_noPart {q : Option Int → Hp → Prop} (h : q none H) : tNoPart σ H q := h
theorem w_part {q : Option Int → Hp → Prop} (h : ta σ H fun x H1 => ∃ i, x = .int i ∧ q (some i) H1) : tPart ta σ H q := h
theorem w_slS {z : Str} {lo hi : Option Int} (h : z.length ≤ sizeLine) (q : Q (.str (cutS z lo hi)) H) : rSlS (.str z) lo hi H Q := ⟨z, rfl, h, q⟩
/-- a test's two ways -/
theorem w_ite {c A B : Prop} [Decidable c] (h1 : c → A) (h2 : ¬ c → B) : if decide c = true then A else B := by
  by_cases h : c
  · rw [if_pos (decide_eq_true h)]
    exact h1 h
  · rw [if_neg (fun z => h (of_decide_eq_true z))]
    exact h2 h
theorem w_iteN {c A B : Prop} [Decidable c] (h1 : ¬ c → A) (h2 : c → B) : if (!decide c) = true then A else B := by
  by_cases h : c
  · rw [decide_eq_true h]
    exact iteF (h2 h)
  · rw [decide_eq_false h]
    exact iteT (h1 h)
theorem w_iteI {a b : Int} {A B : Prop} (h1 : a = b → A) (h2 : a ≠ b → B) : if decide (V.int a = V.int b) = true then A else B := w_ite (fun e => h1 (V.int.inj e)) (fun e => h2 fun z => e (congrArg V.int z))
theorem w_iteS {a b : Str} {A B : Prop} (h1 : a = b → A) (h2 : a ≠ b → B) : if decide (V.str a = V.str b) = true then A else B := w_ite (fun e => h1 (V.str.inj e)) (fun e => h2 fun z => e (congrArg V.str z))
theorem w_iteNI {a b : Int} {A B : Prop} (h1 : a ≠ b → A) (h2 : a = b → B) : if (!decide (V.int a = V.int b)) = true then A else B := w_iteN (fun e => h1 fun z => e (congrArg V.int z)) (fun e => h2 (V.int.inj e))
theorem w_iteNS {a b : Str} {A B : Prop} (h1 : a ≠ b → A) (h2 : a = b → B) : if (!decide (V.str a = V.str b)) = true then A else B := w_iteN (fun e => h1 fun z => e (congrArg V.str z)) (fun e => h2 (V.str.inj e))
theorem w_itb {k : Bool} {A B : Prop} (h1 : k = true → A) (h2 : k = false → B) : if k = true then A else B := by
  cases k with
  | true => exact iteT (h1 rfl)
  | false => exact iteF (h2 rfl)
end

/-! ### a def by its name; calls with keywords -/
def fd0 : FuncData := PySem.W.fnOf "" "" { posonlyargs := [], args := [], vararg := none, kwonlyargs := [], kw_defaults := [], kwarg := none, defaults := [] } [] { kind := .function, names := [], isGenerator := false, isCoroutine := false } .none .none .none .none none .none .none
def fdOf (K : PySem.W.Frag) (f : Addr) : FuncData := match K.lookup f with
  | some ⟨_, _, .func fd, _⟩ => fd
  | _ => fd0
theorem _root_.L2.FunD.toFd {K : PySem.W.Frag} {x qual : Str} {params : Arguments} {body : List Stmt} {scope : Scope} {dvs : List V} {kws : List (Str × V)} {f : Addr} {fd : FuncData} (F : FunD K x qual params body scope dvs kws f fd) : FunD K x qual params body scope dvs kws f (fdOf K f) := by
  obtain ⟨oc, od, dV, kV, doc, pm, an, cdv, ct, osl, e, lk, _⟩ := F.ex
  have h : fdOf K f = fd := by
    unfold fdOf
    rw [lk]
  rw [h]
  exact F
def pick {α : Type} (idx : List Nat) (xs : List α) : List α := idx.filterMap fun i => xs[i]?
theorem vals_pick {xs : List V} {us : List Value} (r : Vals xs us) : ∀ idx : List Nat, Vals (pick idx xs) (pick idx us)
  | [] => .nil
  | i :: idx => by
    have ih := vals_pick r idx
    unfold pick at ih ⊢
    cases e : xs[i]? with
    | none =>
      have e2 := Vals.none_of r e
      rw [List.filterMap_cons_none e, List.filterMap_cons_none e2]
      exact ih
    | some v =>
      obtain ⟨u, e2, rv⟩ := Vals.get r e
      rw [List.filterMap_cons_some e, List.filterMap_cons_some e2]
      exact .cons rv ih
def KbD (K : PySem.W.Frag) (fd : FuncData) (ps : List Str) (n : Nat) (ks : List Str) (ds : List V) (idx : List Nat) : Prop :=
  ∃ dus : List Value, KBn K fd ps n ks (fun us ws => pick idx (us ++ dus ++ ws)) (fun vs zs => pick idx (vs ++ ds ++ zs))
section
variable {K : PySem.W.Frag} {x qual : Str} {params : Arguments} {body : List Stmt} {scope : Scope} {kws : List (Str × V)} {f : Addr} {fd : FuncData} {ps ks : List Str} {n : Nat} {idx : List Nat}
theorem kbD0 (F : FunD K x qual params body scope [] kws f fd)
    (h : ∀ (kV doc pm : Value) (an : Option Addr) (cdv ct : Value) (us ws : List Value), us.length = n → ws.length = ks.length → bindArgs (PySem.W.fnOf x qual params body scope .none kV doc pm an cdv ct) ⟨us, ks.zip ws⟩ = pure (ps.zip (pick idx (us ++ [] ++ ws)))) : KbD K fd ps n ks [] idx := by
  obtain ⟨oc, od, dV, kV, doc, pm, an, cdv, ct, osl, rfl, lk, hcd, hD, hK⟩ := F.ex
  rcases hD with ⟨_, rfl⟩ | ⟨e, _⟩
  · exact ⟨[], fun s us ws X l1 l2 => .of_eq (h kV doc pm an cdv ct us ws l1 l2), fun r1 r2 => vals_pick ((r1.append .nil).append r2) idx⟩
  · exact absurd rfl e
theorem kbD {ms : List (Str × V)} (F : FunD K x qual params body scope [] kws f fd) (hk : kws ≠ []) (hms : ∀ q ∈ ms, q ∈ kws)
    (h : ∀ (D : Addr) (doc pm : Value) (an : Option Addr) (cdv ct : Value) (us mv ws : List Value), us.length = n → mv.length = ms.length → ws.length = ks.length →
      KwChain D ((ms.map (·.1)).zip mv) (bindArgs (PySem.W.fnOf x qual params body scope .none (.ref D) doc pm an cdv ct) ⟨us, ks.zip ws⟩) (ps.zip (pick idx (us ++ mv ++ ws)))) : KbD K fd ps n ks (ms.map (·.2)) idx := by
  obtain ⟨oc, od, dV, kV, doc, pm, an, cdv, ct, osl, rfl, lk, hcd, hD, hK⟩ := F.ex
  rcases hD with ⟨_, rfl⟩ | ⟨e, _⟩
  · rcases hK with e | ⟨D, rfl, hq⟩
    · exact absurd e hk
    · obtain ⟨mv, hl, rk, hks⟩ := kwd_vals (ms := ms) fun q hm => hq q (hms q hm)
      exact ⟨mv, fun s us ws X l1 l2 => BindsTo.of_looks fun M => KwChain.looks X hks (h D doc pm an cdv ct us mv ws l1 hl l2), fun r1 r2 => vals_pick ((r1.append rk).append r2) idx⟩
  · exact absurd rfl e
end
section
variable {X : Cx} {CX : CXT} {k n : Nat} {f : Addr} {fd : FuncData} {ps ks : List Str} {sp : Sp} {E : XK} {x : Str} {p pos : Pos} {e : Expr} {es : List Expr} {kws : List Keyword} {t tk : TA} {ds : List V} {idx : List Nat}
def tCallZ (n m : Nat) (sp : Sp) (ds : List V) (idx : List Nat) (E : XK) (t tk : TA) : TE := fun σ H Q => t σ H fun vs H1 => tk σ H1 fun zs H2 => vs.length = n ∧ zs.length = m ∧ sp (pick idx (vs ++ ds ++ zs)) H2 Q E
theorem pe_callZ (F : FnOk X.prog X.w X.K X.mg X.base CX k f fd ps sp) (hr : Room k X.A) (hg : Gl X x) (hm : X.mg x = some (.ref f)) (hk : PySem.W.keepIn X.K (.ref f) = true) (hb : KbD X.K fd ps n ks ds idx) (hx : Passes CX X E)
    (ha : PA X (e :: es) t) (hkw : PK X kws tk) (hall : (backToKw pos (keywordEach kws X.env)).all (·.1.isSome) = true := by rfl) (hks : (backToKw pos (keywordEach kws X.env)).filterMap (·.1) = ks := by rfl)
    (hdb : (x == ("__debug__" : Str)) = false := by decide) (he : starEach (e :: es) X.env = (false, eval e X.env) :: starEach es X.env := by rfl)
    (hpl : ((backTo pos (starEach (e :: es) X.env)).any (·.1) || (backToKw pos (keywordEach kws X.env)).any (·.1.isNone)) = false := by rfl) :
    PE X (.Call (.Name x p) (e :: es) kws pos) (tCallZ n ks.length sp ds idx E t tk) := by
  obtain ⟨dus, hb⟩ := hb
  exact pe_callN F hr hg hm hk hb hx ha hkw hall hks hdb he hpl
theorem pe_callZ1 (F : FnOk X.prog X.w X.K X.mg X.base CX k f fd ps sp) (hr : Room k X.A) (hg : Gl X x) (hm : X.mg x = some (.ref f)) (hk : PySem.W.keepIn X.K (.ref f) = true) (hb : KbD X.K fd ps n [] ds idx) (hx : Passes CX X E)
    (ha : PA X (e :: es) t) (hdb : (x == ("__debug__" : Str)) = false := by decide) (he : starEach (e :: es) X.env = (false, eval e X.env) :: starEach es X.env := by rfl)
    (hpl : ((backTo pos (starEach (e :: es) X.env)).any (·.1) || (backToKw pos (keywordEach [] X.env)).any (·.1.isNone)) = false := by rfl) :
    PE X (.Call (.Name x p) (e :: es) [] pos) (tCallZ n 0 sp ds idx E t tNil) := pe_callZ F hr hg hm hk hb hx ha pk_nil rfl rfl hdb he hpl
theorem pe_callZ0 (F : FnOk X.prog X.w X.K X.mg X.base CX k f fd ps sp) (hr : Room k X.A) (hg : Gl X x) (hm : X.mg x = some (.ref f)) (hk : PySem.W.keepIn X.K (.ref f) = true) (hb : KbD X.K fd ps 0 ks ds idx) (hx : Passes CX X E)
    (hkw : PK X kws tk) (hall : (backToKw pos (keywordEach kws X.env)).all (·.1.isSome) = true := by rfl) (hks : (backToKw pos (keywordEach kws X.env)).filterMap (·.1) = ks := by rfl)
    (hdb : (x == ("__debug__" : Str)) = false := by decide)
    (hpl : ((backTo pos (starEach [] X.env)).any (·.1) || (backToKw pos (keywordEach kws X.env)).any (·.1.isNone)) = false := by rfl) :
    PE X (.Call (.Name x p) [] kws pos) (tCallZ 0 ks.length sp ds idx E tNil tk) := by
  obtain ⟨dus, hb⟩ := hb
  refine ⟨fun pins s σ H Q I h => ?_⟩
  refine wpAny_Call_Name_kw (ld_glob I hg hm ?_ hdb)
  refine PySem.W.callWith_KW0 (h₀ := X.base) I.ok.mod.kin hk hall ?_ hpl
  refine thn (hkw.run pos pins s σ H _ I h) fun ws s2 ⟨zs, H2, I2, rz, l1, l2, q2⟩ => ⟨I2.kIn, ?_⟩
  rw [hks]
  exact run_fnN F hr hb hx I2 (vs := []) .nil rz l1 l2 q2
theorem w_callZ {n m : Nat} {σ : L2.St} {H : Hp} {Q : VK} (h : t σ H fun vs H1 => tk σ H1 fun zs H2 => vs.length = n ∧ zs.length = m ∧ sp (pick idx (vs ++ ds ++ zs)) H2 Q E) : tCallZ n m sp ds idx E t tk σ H Q := h
end

/-! ### further operators -/
section
variable {X : Cx}
def rMulS : R2 := fun x y H Q => ∃ z k, x = .str z ∧ y = .int k ∧ (0 ≤ k ∧ k ≤ 1000000 ∧ z.length * k.toNat ≤ 1000000) ∧ Q (.str (Txt.mul z k)) H
theorem op_mul_str : OpR X (binaryOp .Mult) rMulS := by
  intro pins s σ H x y u v Q I rx ry h
  obtain ⟨z, k, rfl, rfl, ⟨h0, h1, h2⟩, q⟩ := h
  obtain ⟨t, rfl⟩ := rx
  obtain ⟨t', rfl⟩ := ry
  refine SB.mul ⟨?_, fun a b => ?_, fun a b => ?_⟩ fun t' k' => ⟨.str (Txt.mul z k), H, I.tok _, ⟨_, rfl⟩, q⟩
  · simp
    omega
  · have hk : 1 ≤ k := by omega
    have hz : z.length ≤ 1000000 := by
      have : z.length * 1 ≤ z.length * k.toNat := Nat.mul_le_mul_left _ (by omega)
      omega
    have : (1000000 : Int) ≤ (2 ^ 63 - 1) / k := by
      have hk0 : 0 < k := by omega
      rw [Int.le_ediv_iff_mul_le hk0]
      omega
    omega
  · unfold PySem.Builtin.Str.tooLong
    simp
    rw [sizeLine_eq]
    omega
end

/-! ### the helpers of a law -/
def spCell (K : PySem.W.Frag) : Sp := fun vs H Q _ => ∃ (a : Addr) (ns : List Int) (k : Nat), vs = [.ref a, .int (k : Nat)] ∧ SqL K H a (ns.map V.int) ∧ k < 1000 ∧ ∀ r : Int, Q (.int r) H
def spBag : Sp := fun vs H Q _ => ∃ n : Int, vs = [.int n] ∧ ∀ p o, H p = none → Bag (upd H p o) p 0 → Q (.ref p) (upd H p o)
theorem len_ints {ns : List Int} : (ns.map V.int).length = ns.length := List.length_map _
theorem at_ints {ns : List Int} {k : Nat} (h : k < ns.length) : atI (ns.map V.int) (k : Nat) = some (.int ns[k]) := atI_nat (by rw [List.getElem?_map, List.getElem?_eq_getElem h]; rfl)
theorem w_lenL {K : PySem.W.Frag} {H : Hp} {Q : VK} {p : Addr} {ys : List V} (h : SqL K H p ys) (q : Q (.int ys.length) H) : (fun xs H Q => ∃ p ys, xs = [V.ref p] ∧ (SqL K H p ys ∨ SqT K H p ys) ∧ Q (.int ys.length) H) [.ref p] H Q := ⟨p, ys, rfl, .inl h, q⟩
theorem w_isi {K : PySem.W.Frag} {H : Hp} {Q : VK} {x : V} {T n : String} {b : Bool} (h : TyX K H x (.type T)) (e : kitB T n = some b) (q : Q (.bl b) H) : rIsi K [x, .ty n] H Q := ⟨x, .ty n, .type T, .type n, b, rfl, .ty n, h, kit_ty e, q⟩
theorem w_nF {A B : Prop} (h : B) : if (!true) = true then A else B := iteF h
theorem w_nT {A B : Prop} (h : A) : if (!false) = true then A else B := iteT h

/-! ### texts as lists of codes -/
abbrev tl (z : Str) : List Nat := z.cps.toList
theorem tl_mkS (l : List Nat) : tl (mkS l) = l := rfl
theorem mkS_tl (z : Str) : mkS (tl z) = z := TL.mk_tl z
theorem len_tl (z : Str) : z.length = (tl z).length := TL.len_tl z
theorem mkS_inj {a b : List Nat} (h : mkS a = mkS b) : a = b := by
  have e := congrArg tl h
  exact e
def cut1 (c : Nat) : List Nat → List Nat → List (List Nat)
  | acc, [] => [acc]
  | acc, d :: r => if d = c then acc :: cut1 c [] r else cut1 c (acc ++ [d]) r
theorem spl_cut1 (c : Nat) : ∀ (l acc : List Nat), TL.spl [c] 0 acc l = cut1 c acc l
  | [], acc => rfl
  | d :: r, acc => by
    have hp : TL.pre [c] (d :: r) = decide (d = c) := by
      show ([d] == [c]) = decide (d = c)
      by_cases e : d = c
      · simp [e]
      · simp [e]
    by_cases e : d = c
    · rw [TL.spl_hit (by rw [hp]; exact decide_eq_true e)]
      show acc :: TL.spl [c] 0 [] r = _
      rw [spl_cut1 c r []]
      simp [cut1, e]
    · rw [TL.spl_miss (by rw [hp]; exact decide_eq_false e), spl_cut1 c r (acc ++ [d])]
      simp [cut1, e]
theorem split_cut1 (z : Str) {c : Nat} (hc : c < 256) : Txt.split z (mkS [c]) = (cut1 c [] (tl z)).map mkS := by
  refine TL.map_tl_inj ?_
  have h := TL.split_spl z (mkS [c]) (by simp [TL.tl, mkS]) (TL.kind_ok (by simp [mkS, hc]))
  rw [h, List.map_map]
  show TL.spl [c] 0 [] (tl z) = _
  rw [spl_cut1]
  show _ = (cut1 c [] (tl z)).map (tl ∘ mkS)
  have : (tl ∘ mkS) = id := rfl
  rw [this, List.map_id]
theorem cut1_len (c : Nat) : ∀ (l acc : List Nat), (cut1 c acc l).length ≤ l.length + 1
  | [], _ => Nat.le_refl _
  | d :: r, acc => by
    unfold cut1
    split
    · have := cut1_len c r []
      simp only [List.length_cons]
      omega
    · have := cut1_len c r (acc ++ [d])
      simp only [List.length_cons]
      omega
/-- flat things in a list of texts -/
theorem flat_strs (l : List Str) : (l.map V.str).all flatV = true := by simp [flatV]
theorem inV_str {x : Str} : ∀ {l : List Str}, inV (.str x) (l.map V.str) = decide (x ∈ l)
  | [] => by simp [inV]
  | y :: l => by
    have ih := inV_str (x := x) (l := l)
    have e : inV (.str x) (V.str y :: l.map V.str) = (eqV (.str y) (.str x) || inV (.str x) (l.map V.str)) := rfl
    show inV (.str x) (V.str y :: l.map V.str) = _
    rw [e, ih]
    have e2 : eqV (.str y) (.str x) = decide (x = y) := by
      by_cases h : x = y
      · simp [eqV, h]
      · have h2 : ¬ y = x := fun z => h z.symm
        simp [eqV, h, h2]
    rw [e2]
    by_cases h : x = y <;> simp [h]

/-! ### loops -/
section
variable {K : PySem.W.Frag} {σ : L2.St} {H H1 : Hp} {Q : VK} {D : Ends} {g : TG} {tb : TS} {wi : TI} {J : It} {tt : TT} {te ta : TE} {vs : List Nat} {tr : TA}
def ForGo (J : It) (g : TG) (tb : TS) (D : Ends) (σ : L2.St) (H1 : Hp) : Prop := ∃ W : Nat → Nat → L2.St → Hp → Prop, (∃ m, W 0 m σ H1) ∧ ∀ i m σ H, W i m σ H →
  (J.stop i H ∧ D.nx σ H) ∨ (J.go i H ∧ ∃ N : L2.St → Hp → Prop, (∀ σ' H', N σ' H' → ∃ m', m' < m ∧ W (i + 1) m' σ' H') ∧ ∀ x H', J.yld i H x H' → g x σ H' fun σ2 H2 => tb { D with nx := N, ct := N, bk := D.nx } σ2 H2)
theorem w_for (h : wi σ H fun J H1 => ForGo J g tb D σ H1) : tFor wi g tb D σ H := h
def LcGo (J : It) (g : TG) (tt : TT) (te : TE) (vs : List Nat) (σ : L2.St) (H1 : Hp) (D : Addr) (Qd : Hp → Prop) : Prop := ∃ W : Nat → Nat → Hp → Prop, (∃ m, W 0 m (upd H1 D (.lst []))) ∧ ∀ i m H, W i m H →
  (J.stop i H ∧ Qd H) ∨ (J.go i H ∧ ∃ Nx : Hp → Prop, (∀ H', Nx H' → ∃ m', m' < m ∧ W (i + 1) m' H') ∧ ∀ x H', J.yld i H x H' → g x (wipe σ vs) H' fun σ2 H2 => wipe σ2 vs = wipe σ vs ∧ tt σ2 H2 fun b H3 =>
    if b = true then te σ2 H3 fun y H4 => ∃ acc, H4 D = some (.lst acc) ∧ acc.length < sizeLine ∧ Nx (upd H4 D (.lst (acc ++ [y]))) else Nx H3)
theorem w_lc (h : wi σ H fun J H1 => ∀ D, H1 D = none → LcGo J g tt te vs σ H1 D fun H => Q (.ref D) H) : tLc wi g tt te vs σ H Q := h
theorem w_iStr {R : It → Hp → Prop} (h : ta σ H fun v H1 => ∃ x, v = .str x ∧ R (Its x) H1) : iStr ta σ H R := h
theorem w_iList {R : It → Hp → Prop} (h : ta σ H fun x H1 => ∃ a, x = .ref a ∧ (∃ xs, SqL K H1 a xs) ∧ R (Itl K a) H1) : iList K ta σ H R := h
theorem w_iTup {R : It → Hp → Prop} (h : ta σ H fun x H1 => ∃ a, x = .ref a ∧ (∃ xs, SqT K H1 a xs) ∧ R (Itt K a) H1) : iTup K ta σ H R := h
theorem w_iRng1 {R : It → Hp → Prop} (h : tr σ H fun vs H1 => ∃ j : Int, vs = [.int j] ∧ -(2 ^ 62) ≤ j ∧ j < 2 ^ 62 ∧ R (Itr 0 j.toNat) H1) : iRng1 tr σ H R := h
theorem for_text {z : Str} (Pv : Nat → L2.St → Hp → Prop) (h0 : Pv 0 σ H)
    (hs : ∀ i c σ H, (tl z)[i]? = some c → Pv i σ H → g (.str (mkS [c])) σ H fun σ2 H2 => tb { D with nx := Pv (i + 1), ct := Pv (i + 1), bk := D.nx } σ2 H2) (hd : ∀ σ H, Pv (tl z).length σ H → D.nx σ H) : ForGo (Its z) g tb D σ H := by
  refine for_it (walk_str (z := z)) Pv h0 (fun _ _ _ _ _ => trivial) (fun i x σ H H' hi p y => ?_) (fun σ H p => hd σ H (by simpa using p))
  obtain ⟨rfl, c, e, rfl⟩ := y
  exact hs i c σ H' (by simpa using e) p
theorem for_rng {n : Nat} {lo : Int} (Pv : Nat → L2.St → Hp → Prop) (h0 : Pv 0 σ H)
    (hs : ∀ i σ H, i < n → Pv i σ H → g (.int (lo + i)) σ H fun σ2 H2 => tb { D with nx := Pv (i + 1), ct := Pv (i + 1), bk := D.nx } σ2 H2) (hd : ∀ σ H, Pv n σ H → D.nx σ H) : ForGo (Itr lo n) g tb D σ H := by
  refine for_it (walk_range (lo := lo) (n := n)) Pv h0 (fun _ _ _ _ _ => trivial) (fun i x σ H H' hi p y => ?_) hd
  obtain ⟨rfl, rfl⟩ := y
  exact hs i σ H' hi p
theorem for_lst {a : Addr} {xs : List V} (Pv : Nat → L2.St → Hp → Prop) (h0 : Pv 0 σ H) (hG : ∀ i σ H, i ≤ xs.length → Pv i σ H → SqL K H a xs)
    (hs : ∀ i x σ H, xs[i]? = some x → Pv i σ H → g x σ H fun σ2 H2 => tb { D with nx := Pv (i + 1), ct := Pv (i + 1), bk := D.nx } σ2 H2) (hd : ∀ σ H, Pv xs.length σ H → D.nx σ H) : ForGo (Itl K a) g tb D σ H := by
  refine for_it (walk_list (K := K) (a := a) (xs := xs)) Pv h0 hG (fun i x σ H H' hi p y => ?_) hd
  obtain ⟨rfl, e⟩ := y
  exact hs i x σ H' e p
/-- what is made so far is told by R -/
def Acc (Dl : Addr) (R : List V → Hp → Prop) (H : Hp) : Prop := ∃ acc, H Dl = some (.lst acc) ∧ R acc H
theorem lc_acc {n : Nat} {G : Hp → Prop} {Y : Nat → Hp → V → Hp → Prop} (w : Walk J n G Y) {Dl : Addr} {Qd : Hp → Prop} (R : Nat → List V → Hp → Prop) (h0 : R 0 [] (upd H1 Dl (.lst []))) (hG : ∀ i acc H, i ≤ n → R i acc H → H Dl = some (.lst acc) → G H)
    (hs : ∀ i acc x H H', i < n → R i acc H → H Dl = some (.lst acc) → Y i H x H' → g x (wipe σ vs) H' fun σ2 H2 => wipe σ2 vs = wipe σ vs ∧ tt σ2 H2 fun b H3 =>
      if b = true then te σ2 H3 fun y H4 => ∃ acc, H4 Dl = some (.lst acc) ∧ acc.length < sizeLine ∧ Acc Dl (R (i + 1)) (upd H4 Dl (.lst (acc ++ [y]))) else Acc Dl (R (i + 1)) H3)
    (hd : ∀ acc H, R n acc H → H Dl = some (.lst acc) → Qd H) : LcGo J g tt te vs σ H1 Dl Qd :=
  lc_it w (fun i H => Acc Dl (R i) H) ⟨[], upd_same, h0⟩ (fun i H hi ⟨acc, e, r⟩ => hG i acc H hi r e) (fun i x H H' hi ⟨acc, e, r⟩ y => hs i acc x H H' hi r e y) (fun H ⟨acc, e, r⟩ => hd acc H r e)
theorem lc_text {z : Str} {Dl : Addr} {Qd : Hp → Prop} (R : Nat → List V → Hp → Prop) (h0 : R 0 [] (upd H1 Dl (.lst [])))
    (hs : ∀ i acc c H, (tl z)[i]? = some c → R i acc H → H Dl = some (.lst acc) → g (.str (mkS [c])) (wipe σ vs) H fun σ2 H2 => wipe σ2 vs = wipe σ vs ∧ tt σ2 H2 fun b H3 =>
      if b = true then te σ2 H3 fun y H4 => ∃ acc, H4 Dl = some (.lst acc) ∧ acc.length < sizeLine ∧ Acc Dl (R (i + 1)) (upd H4 Dl (.lst (acc ++ [y]))) else Acc Dl (R (i + 1)) H3)
    (hd : ∀ acc H, R (tl z).length acc H → H Dl = some (.lst acc) → Qd H) : LcGo (Its z) g tt te vs σ H1 Dl Qd := by
  refine lc_acc (walk_str (z := z)) R h0 (fun _ _ _ _ _ _ => trivial) (fun i acc x H H' hi r e y => ?_) (fun acc H r => hd acc H (by simpa using r))
  obtain ⟨rfl, c, e2, rfl⟩ := y
  exact hs i acc c H' (by simpa using e2) r e
theorem lc_rng {n : Nat} {lo : Int} {Dl : Addr} {Qd : Hp → Prop} (R : Nat → List V → Hp → Prop) (h0 : R 0 [] (upd H1 Dl (.lst [])))
    (hs : ∀ i acc H, i < n → R i acc H → H Dl = some (.lst acc) → g (.int (lo + i)) (wipe σ vs) H fun σ2 H2 => wipe σ2 vs = wipe σ vs ∧ tt σ2 H2 fun b H3 =>
      if b = true then te σ2 H3 fun y H4 => ∃ acc, H4 Dl = some (.lst acc) ∧ acc.length < sizeLine ∧ Acc Dl (R (i + 1)) (upd H4 Dl (.lst (acc ++ [y]))) else Acc Dl (R (i + 1)) H3)
    (hd : ∀ acc H, R n acc H → H Dl = some (.lst acc) → Qd H) : LcGo (Itr lo n) g tt te vs σ H1 Dl Qd := by
  refine lc_acc (walk_range (lo := lo) (n := n)) R h0 (fun _ _ _ _ _ _ => trivial) (fun i acc x H H' hi r e y => ?_) hd
  obtain ⟨rfl, rfl⟩ := y
  exact hs i acc H' hi r e
theorem lc_lst {a : Addr} {xs : List V} {Dl : Addr} {Qd : Hp → Prop} (R : Nat → List V → Hp → Prop) (h0 : R 0 [] (upd H1 Dl (.lst []))) (hG : ∀ i acc H, i ≤ xs.length → R i acc H → H Dl = some (.lst acc) → SqL K H a xs)
    (hs : ∀ i acc x H, xs[i]? = some x → R i acc H → H Dl = some (.lst acc) → g x (wipe σ vs) H fun σ2 H2 => wipe σ2 vs = wipe σ vs ∧ tt σ2 H2 fun b H3 =>
      if b = true then te σ2 H3 fun y H4 => ∃ acc, H4 Dl = some (.lst acc) ∧ acc.length < sizeLine ∧ Acc Dl (R (i + 1)) (upd H4 Dl (.lst (acc ++ [y]))) else Acc Dl (R (i + 1)) H3)
    (hd : ∀ acc H, R xs.length acc H → H Dl = some (.lst acc) → Qd H) : LcGo (Itl K a) g tt te vs σ H1 Dl Qd := by
  refine lc_acc (walk_list (K := K) (a := a) (xs := xs)) R h0 hG (fun i acc x H H' hi r e y => ?_) hd
  obtain ⟨rfl, e2⟩ := y
  exact hs i acc x H' e2 r e
end
theorem lt_line {n : Nat} (h : n < 16777216) : n < sizeLine := by rw [sizeLine_eq]; exact h
theorem le_line {n : Nat} (h : n ≤ 16777216) : n ≤ sizeLine := by rw [sizeLine_eq]; exact h
theorem w_append {H : Hp} {Q : VK} {p : Addr} {xs : List V} {y : V} (h : H p = some (.lst xs)) (hl : xs.length < 16777216) (q : Q .non (upd H p (.lst (xs ++ [y])))) : rAppend (.ref p) [y] H Q := ⟨p, xs, y, rfl, rfl, h, lt_line hl, q⟩
theorem w_inL {K : PySem.W.Frag} {H : Hp} {Q : VK} {p : Addr} {xs : List V} {x : V} (h : H p = some (.lst xs)) (hx : flatV x = true) (hs : xs.all flatV = true) (q : Q (.bl (inV x xs)) H) : rIn K false x (.ref p) H Q := ⟨p, xs, rfl, .inl (SqL.of h), hx, hs, q⟩
theorem w_niL {K : PySem.W.Frag} {H : Hp} {Q : VK} {p : Addr} {xs : List V} {x : V} (h : H p = some (.lst xs)) (hx : flatV x = true) (hs : xs.all flatV = true) (q : Q (.bl (!inV x xs)) H) : rIn K true x (.ref p) H Q := ⟨p, xs, rfl, .inl (SqL.of h), hx, hs, q⟩
theorem mkS_app (a b : List Nat) : mkS a ++ mkS b = mkS (a ++ b) := TL.ext_tl (by rw [TL.tl_append]; rfl)
theorem tl_app (x y : Str) : tl (x ++ y) = tl x ++ tl y := TL.tl_append x y
theorem take_go {b : Addr} {m : Int} {n : Nat} {H : Hp} {Q : VK} {E : XK} (hm0 : 0 < m) (hm1 : m < 1073741824) (hB : Bag H b n) (hn : n < 1073741824) (q : ∀ r H', 0 ≤ r → r < m → Keep [b] H H' → Bag H' b (n + 1) → Q (.int r) H') : spTake [.ref b, .int m] H Q E := ⟨b, m, n, rfl, hm0, hm1, hB, hn, q⟩
theorem Bag.new {H : Hp} {b p : Addr} {n : Nat} {o : HO} (h : Bag H b n) (hp : H p = none) : Bag (upd H p o) b n := by
  obtain ⟨x, y, z, e, r⟩ := h
  exact ⟨x, y, z, by rw [upd_ne (ne_of_none e hp)]; exact e, r⟩
theorem Bag.ne {H : Hp} {b p : Addr} {n : Nat} (h : Bag H b n) (hp : H p = none) : p ≠ b := by
  obtain ⟨x, y, z, e, r⟩ := h
  exact (ne_of_none e hp).symm
theorem Bag.upd {H : Hp} {b p : Addr} {n : Nat} {o : HO} (h : Bag H b n) (hp : b ≠ p) : Bag (upd H p o) b n := by
  obtain ⟨x, y, z, e, r⟩ := h
  exact ⟨x, y, z, by rw [upd_ne hp]; exact e, r⟩
/-- a place that is new since H may be changed -/
theorem Keep.updNew {S : List Addr} {H H1 : Hp} {p : Addr} {o : HO} (k : Keep S H H1) (hp : H p = none) : Keep S H (upd H1 p o) := fun a u e => by
  have n : a ≠ p := ne_of_none e hp
  rw [upd_ne n]
  exact k a u e
theorem Keep.upd {S : List Addr} {H H1 : Hp} {p : Addr} {o : HO} (k : Keep S H H1) (hp : p ∈ S) : Keep S H (L2.upd H1 p o) := k.trans (Keep.set hp)
/-! texts joined, multiplied -/
theorem joinL_len (S : List Nat) : ∀ l : List (List Nat), (TL.joinL S l).length ≤ (l.map List.length).sum + l.length * S.length
  | [] => by simp [TL.joinL]
  | [p] => by simp [TL.joinL]
  | p :: q :: r => by
    have ih := joinL_len S (q :: r)
    show (p ++ (S ++ TL.joinL S (q :: r))).length ≤ _
    simp only [List.length_append, List.map_cons, List.sum_cons, List.length_cons, Nat.add_mul, Nat.one_mul] at ih ⊢
    omega
theorem tl_join (a : Str) (ys : List Str) : tl (Txt.join a ys) = TL.joinL (tl a) (ys.map tl) := by
  rw [TL.join_eq]
  exact TL.tl_join a ys
theorem join_len (a : Str) (ys : List Str) : (Txt.join a ys).length ≤ (ys.map (·.length)).sum + ys.length * a.length := by
  have h := joinL_len (tl a) (ys.map tl)
  rw [len_tl, tl_join]
  have e : (ys.map tl).map List.length = ys.map (·.length) := by
    rw [List.map_map]
    exact List.map_congr_left fun x _ => (len_tl x).symm
  rw [e, List.length_map, ← len_tl a] at h
  exact h
theorem sum_le {l : List Nat} {m : Nat} (h : ∀ x ∈ l, x ≤ m) : l.sum ≤ l.length * m := by
  induction l with
  | nil => simp
  | cons x r ih =>
    have h1 := h x (List.mem_cons_self ..)
    have h2 := ih fun y hy => h y (List.mem_cons_of_mem _ hy)
    simp only [List.sum_cons, List.length_cons, Nat.add_mul, Nat.one_mul]
    omega
theorem foldl_app : ∀ (l : List (Array Nat)) (a : Array Nat), (l.foldl (· ++ ·) a).toList = a.toList ++ (l.map Array.toList).flatten
  | [], a => by simp
  | x :: l, a => by
    rw [List.foldl_cons, foldl_app l (a ++ x)]
    simp
theorem tl_mul {z : Str} {k : Int} (h : 0 ≤ k) : tl (Txt.mul z k) = (List.replicate k.toNat (tl z)).flatten := by
  unfold Txt.mul
  by_cases h1 : k < 1
  · have e : k = 0 := by omega
    subst e
    rfl
  · rw [if_neg h1]
    by_cases h2 : (k == 1 || z.length == 0) = true
    · rw [if_pos h2]
      simp only [Bool.or_eq_true, beq_iff_eq] at h2
      rcases h2 with h2 | h2
      · subst h2
        simp
      · have e : tl z = [] := by
          rw [len_tl] at h2
          exact List.length_eq_zero_iff.mp h2
        rw [e]
        simp
    · rw [if_neg h2]
      show ((List.replicate k.toNat z.cps).foldl (· ++ ·) #[]).toList = _
      rw [foldl_app]
      simp
theorem mul_len {z : Str} {k : Int} (h : 0 ≤ k) : (Txt.mul z k).length = k.toNat * z.length := by
  rw [len_tl, tl_mul h, List.length_flatten, List.map_replicate, List.sum_replicate_nat, len_tl]
theorem one_strs {l : List V} {p : Nat → Prop} (h : ∀ v ∈ l, ∃ c, v = V.str (mkS [c]) ∧ p c) : ∃ cs : List Nat, l = (cs.map fun c => mkS [c]).map V.str ∧ ∀ c ∈ cs, p c := by
  induction l with
  | nil => exact ⟨[], rfl, fun c hc => by cases hc⟩
  | cons v r ih =>
    obtain ⟨c, rfl, pc⟩ := h v (List.mem_cons_self ..)
    obtain ⟨cs, e, pcs⟩ := ih fun w hw => h w (List.mem_cons_of_mem _ hw)
    refine ⟨c :: cs, by rw [e]; rfl, fun d hd => ?_⟩
    rcases List.mem_cons.mp hd with z | z
    · exact z ▸ pc
    · exact pcs d z
theorem all_strs {l : List V} {p : Str → Prop} (h : ∀ v ∈ l, ∃ c, v = V.str c ∧ p c) : ∃ cs : List Str, l = cs.map V.str ∧ ∀ c ∈ cs, p c := by
  induction l with
  | nil => exact ⟨[], rfl, fun c hc => by cases hc⟩
  | cons v r ih =>
    obtain ⟨c, rfl, pc⟩ := h v (List.mem_cons_self ..)
    obtain ⟨cs, e, pcs⟩ := ih fun w hw => h w (List.mem_cons_of_mem _ hw)
    refine ⟨c :: cs, by rw [e]; rfl, fun d hd => ?_⟩
    rcases List.mem_cons.mp hd with z | z
    · exact z ▸ pc
    · exact pcs d z
theorem all_snoc {l : List V} {p : V → Prop} {v : V} (h : ∀ x ∈ l, p x) (hv : p v) : ∀ x ∈ l ++ [v], p x := fun x hx => by
  rcases List.mem_append.mp hx with z | z
  · exact h x z
  · exact (show x = v by simpa using z) ▸ hv
theorem at_head {α : Type} {x : α} {r : List α} : atI (x :: r) 0 = some x := atI_nat (j := 0) rfl
theorem sum_ones (cs : List Nat) : ((cs.map fun c => mkS [c]).map (·.length)).sum = cs.length := by
  induction cs with
  | nil => rfl
  | cons c r ih =>
    simp only [List.map_cons, List.sum_cons, List.length_cons]
    have e : (mkS [c]).length = 1 := rfl
    rw [ih, e]
    omega
theorem joinL_ones : ∀ cs : List Nat, TL.joinL [] (cs.map fun c => [c]) = cs
  | [] => rfl
  | [c] => rfl
  | c :: d :: r => by
    show [c] ++ ([] ++ TL.joinL [] ((d :: r).map fun c => [c])) = _
    rw [joinL_ones (d :: r)]
    rfl
theorem join_ones (cs : List Nat) : Txt.join "" (cs.map fun c => mkS [c]) = mkS cs := by
  refine TL.ext_tl ?_
  show tl _ = tl _
  rw [tl_join, List.map_map]
  exact joinL_ones cs
theorem atS {z : Str} {r : Int} (h0 : 0 ≤ r) (h : r < z.length) : ∃ c, (tl z)[r.toNat]? = some c ∧ atI z.cps.toList r = some c := by
  rw [len_tl] at h
  have hl : r.toNat < (tl z).length := by omega
  refine ⟨(tl z)[r.toNat], List.getElem?_eq_getElem hl, ?_⟩
  have e : r = ((r.toNat : Nat) : Int) := by omega
  conv => lhs; rw [e]
  exact atI_nat (List.getElem?_eq_getElem hl)

/-! ### texts of plain signs -/
def Asc (z : Str) : Prop := ∀ c ∈ tl z, c < 128
theorem Asc.app {x y : Str} (hx : Asc x) (hy : Asc y) : Asc (x ++ y) := fun c hc => by
  rw [tl_app] at hc
  rcases List.mem_append.mp hc with h | h
  · exact hx c h
  · exact hy c h
theorem Asc.ok {z : Str} (h : Asc z) : PyData.strOk z = true := by
  unfold PyData.strOk
  rw [Array.all_eq_true]
  intro i hi
  have := h z.cps[i] (by simp [tl])
  simp
  omega
theorem Asc.mk {l : List Nat} (h : ∀ c ∈ l, c < 128) : Asc (mkS l) := h
theorem Asc.mul {z : Str} {k : Int} (h : Asc z) (hk : 0 ≤ k) : Asc (Txt.mul z k) := fun c hc => by
  rw [tl_mul hk] at hc
  obtain ⟨l, hl, hc⟩ := List.mem_flatten.mp hc
  rw [List.eq_of_mem_replicate hl] at hc
  exact h c hc
theorem mem_joinL {S : List Nat} {c : Nat} : ∀ {l : List (List Nat)}, c ∈ TL.joinL S l → c ∈ S ∨ ∃ p ∈ l, c ∈ p
  | [], h => by cases h
  | [p], h => .inr ⟨p, List.mem_singleton.mpr rfl, h⟩
  | p :: q :: r, h => by
    have h : c ∈ p ++ (S ++ TL.joinL S (q :: r)) := h
    rcases List.mem_append.mp h with h | h
    · exact .inr ⟨p, List.mem_cons_self .., h⟩
    rcases List.mem_append.mp h with h | h
    · exact .inl h
    rcases mem_joinL h with h | ⟨x, hx, h⟩
    · exact .inl h
    · exact .inr ⟨x, List.mem_cons_of_mem _ hx, h⟩
theorem Asc.join {a : Str} {ys : List Str} (h : Asc a) (hs : ∀ y ∈ ys, Asc y) : Asc (Txt.join a ys) := fun c hc => by
  rw [tl_join] at hc
  rcases mem_joinL hc with z | ⟨p, hp, z⟩
  · exact h c z
  · obtain ⟨y, hy, rfl⟩ := List.mem_map.mp hp
    exact hs y hy c z
theorem cut1_sub (c : Nat) : ∀ (l acc : List Nat) (p : List Nat), p ∈ cut1 c acc l → ∀ d ∈ p, d ∈ acc ∨ d ∈ l
  | [], acc, p, hp, d, hd => by
    have : p = acc := by simpa [cut1] using hp
    exact .inl (this ▸ hd)
  | e :: r, acc, p, hp, d, hd => by
    unfold cut1 at hp
    split at hp
    · rcases List.mem_cons.mp hp with h | h
      · exact .inl (h ▸ hd)
      · rcases cut1_sub c r [] p h d hd with h | h
        · cases h
        · exact .inr (List.mem_cons_of_mem _ h)
    · rcases cut1_sub c r (acc ++ [e]) p hp d hd with h | h
      · rcases List.mem_append.mp h with h | h
        · exact .inl h
        · exact .inr (by simp at h; simp [h])
      · exact .inr (List.mem_cons_of_mem _ h)
theorem Asc.cut1 {z : Str} (h : Asc z) {c : Nat} {p : List Nat} (hp : p ∈ Fr.cut1 c [] (tl z)) : Asc (mkS p) := fun d hd => by
  rcases cut1_sub c (tl z) [] p hp d hd with h' | h'
  · cases h'
  · exact h d h'
theorem Asc.cutS {z : Str} (h : Asc z) (lo hi : Option Int) : Asc (L2.cutS z lo hi) := fun c hc => by
  unfold L2.cutS at hc
  exact h c (List.mem_of_mem_drop (List.mem_of_mem_take hc))
/-! ### data of some depth, compared -/
theorem lay_strs : ∀ l : List Str, (∀ x ∈ l, Asc x) → PyData.canLayAll0 (l.map PyData.str) = true ∧ PyData.depthAll (l.map PyData.str) = 0
  | [], _ => ⟨rfl, rfl⟩
  | x :: l, h => by
    obtain ⟨a, b⟩ := lay_strs l fun y hy => h y (List.mem_cons_of_mem _ hy)
    constructor
    · simp [PyData.canLayAll0, PyData.canLay0, a, (h x (List.mem_cons_self ..)).ok]
    · simp [PyData.depthAll, PyData.depth, b]
theorem shaped_strs {l : List Str} (h : ∀ x ∈ l, Asc x) : SeqAt.shaped (.list (l.map PyData.str)) = true := by
  obtain ⟨a, b⟩ := lay_strs l h
  unfold SeqAt.shaped
  simp [PyData.canLay0, a, PyData.depth, b]
theorem dp_strs {K : PySem.W.Frag} {H : Hp} : ∀ l : List Str, DpAll K H (l.map V.str) (l.map PyData.str)
  | [] => .nil
  | x :: l => .cons (.str x) (dp_strs l)
theorem w_neD {K : PySem.W.Frag} {H : Hp} {Q : VK} {x y : V} {d e : PyData} (hx : Dp K H x d) (hy : Dp K H y e) (hd : SeqAt.shaped d = true) (he : SeqAt.shaped e = true) (q : Q (.bl (!PyData.eqv d e)) H) : rNeD K x y H Q := ⟨d, e, hx, hy, hd, he, q⟩
theorem w_eqD {K : PySem.W.Frag} {H : Hp} {Q : VK} {x y : V} {d e : PyData} (hx : Dp K H x d) (hy : Dp K H y e) (hd : SeqAt.shaped d = true) (he : SeqAt.shaped e = true) (q : Q (.bl (PyData.eqv d e)) H) : rEqD K x y H Q := ⟨d, e, hx, hy, hd, he, q⟩
theorem eqv_self {d : PyData} (h : SeqAt.shaped d = true) : PyData.eqv d d = true := SeqAt.eqv_refl d (SeqAt.canLay_of_shaped h)
theorem Keep.fresh {S : List Addr} {H H1 : Hp} (k : Keep S H H1) (h : ∀ p ∈ S, H p = none) : Keep [] H H1 := fun a o e => ⟨(k a o e).1, fun _ => (k a o e).2 fun z => by
  rw [h a z] at e
  cases e⟩
theorem Keep.sqL {K : PySem.W.Frag} {H H1 : Hp} {a : Addr} {xs : List V} (k : Keep [] H H1) (h : SqL K H a xs) : SqL K H1 a xs := by
  rcases h with (h | ⟨o, h⟩) | h
  · exact .inl (.inl (k.get h (by simp)))
  · exact .inl (.inr ⟨o, k.get h (by simp)⟩)
  · exact .inr h
theorem cell_go {K : PySem.W.Frag} {a : Addr} {ns : List Int} {k : Nat} {H : Hp} {Q : VK} {E : XK} (hS : SqL K H a (ns.map V.int)) (hk : k < 1000) (q : ∀ r : Int, Q (.int r) H) : spCell K [.ref a, .int (0 + (k : Nat))] H Q E := ⟨a, ns, k, by rw [Int.zero_add], hS, hk, q⟩
theorem bag_go {n : Int} {H : Hp} {Q : VK} {E : XK} (q : ∀ p o, H p = none → Bag (upd H p o) p 0 → Q (.ref p) (upd H p o)) : spBag [.int n] H Q E := ⟨n, rfl, q⟩
/-- an item of a list at a place in bounds -/
theorem at_all {xs : List V} {r : Int} {p : V → Prop} (h0 : 0 ≤ r) (h1 : r < xs.length) (h : ∀ v ∈ xs, p v) : ∃ v, atI xs r = some v ∧ p v := by
  have hl : r.toNat < xs.length := by omega
  have e : r = ((r.toNat : Nat) : Int) := by omega
  refine ⟨xs[r.toNat], ?_, h _ (List.getElem_mem hl)⟩
  conv => lhs; rw [e]
  exact atI_nat (List.getElem?_eq_getElem hl)
def NotStr (K : PySem.W.Frag) (H : Hp) (v : V) : Prop := ∃ T, TyX K H v (.type T) ∧ kitB T "str" = some false
theorem notStr_non {K : PySem.W.Frag} {H : Hp} : NotStr K H .non := ⟨_, .base .non, by decide +kernel⟩
theorem notStr_bl {K : PySem.W.Frag} {H : Hp} {b : Bool} : NotStr K H (.bl b) := ⟨_, .base (.bl b), by decide +kernel⟩
theorem notStr_int {K : PySem.W.Frag} {H : Hp} {i : Int} : NotStr K H (.int i) := ⟨_, .base (.int i), by decide +kernel⟩
theorem notStr_lst {K : PySem.W.Frag} {H : Hp} {p : Addr} {xs : List V} (h : H p = some (.lst xs)) : NotStr K H (.ref p) := ⟨_, .base (.lst h), by decide +kernel⟩
theorem notStr_tup {K : PySem.W.Frag} {H : Hp} {p : Addr} {xs : List V} (h : H p = some (.tup xs)) : NotStr K H (.ref p) := ⟨_, .base (.tup h), by decide +kernel⟩
theorem notStr_dK {K : PySem.W.Frag} {H : Hp} {p : Addr} {xs : List (Key × V)} (h : H p = some (.dK xs)) : NotStr K H (.ref p) := ⟨_, .base (.dK h), by decide +kernel⟩
/-! operators under names -/
def rAddT : R2 := fun x y H Q => ∃ i j, x = .str i ∧ y = .str j ∧ i.length + j.length ≤ sizeLine ∧ Q (.str (i ++ j)) H
theorem op_addT {X : Cx} : OpR X (binaryOp .Add) rAddT := op_add_str
theorem w_addT {H : Hp} {Q : VK} {a b : Str} (h : a.length + b.length ≤ 16777216) (q : Q (.str (a ++ b)) H) : rAddT (.str a) (.str b) H Q := ⟨a, b, rfl, rfl, le_line h, q⟩
theorem app_len (a b : Str) : (a ++ b).length = a.length + b.length := by
  rw [len_tl, tl_app, List.length_append, ← len_tl, ← len_tl]
theorem mkS_len (l : List Nat) : (mkS l).length = l.length := rfl
theorem asc_of {z : Str} (h : (tl z).all (fun c => decide (c < 128)) = true) : Asc z := fun c hc => of_decide_eq_true (List.all_eq_true.mp h c hc)
theorem w_dnewK {σ : L2.St} {H : Hp} {Q : VK} (h : ∀ p, H p = none → Q (.ref p) (upd H p (.dK []))) : tDNewK σ H Q := h
theorem stay {H : Hp} {p q : Addr} {o u : HO} (h : H q = some o) (hp : H p = none) : upd H p u q = some o := by
  rw [upd_ne (ne_of_none h hp)]
  exact h
theorem one_eq {c d : Nat} : mkS [c] = mkS [d] ↔ c = d := ⟨fun e => by simpa using mkS_inj e, fun e => by rw [e]⟩
theorem head_at {l : List Nat} (h : l ≠ []) : ∃ c r, l = c :: r ∧ atI l 0 = some c := by
  cases l with
  | nil => exact absurd rfl h
  | cons c r => exact ⟨c, r, rfl, at_head⟩
theorem take_snoc {α : Type} {l : List α} {i : Nat} {c : α} (h : l[i]? = some c) : l.take (i + 1) = l.take i ++ [c] := by
  rw [List.take_add_one, h]
  rfl
theorem ixL_all {K : PySem.W.Frag} {H : Hp} {Q : VK} {p : Addr} {xs : List V} {r : Int} {P : V → Prop} (e : H p = some (.lst xs)) (h0 : 0 ≤ r) (h1 : r < xs.length) (h : ∀ v ∈ xs, P v) (q : ∀ v, P v → Q v H) : rIxL K (.ref p) (.int r) H Q := by
  obtain ⟨v, hv, pv⟩ := at_all h0 h1 h
  exact w_ixL e hv (q v pv)
theorem Bag.keep0 {H H' : Hp} {b : Addr} {n : Nat} (h : Bag H b n) (k : Keep [] H H') : Bag H' b n := by
  obtain ⟨x, y, z, e, r⟩ := h
  exact ⟨x, y, z, k.get e (by simp), r⟩
theorem Keep.up {b : Addr} {H H' : Hp} (k : Keep [] H H') : Keep [b] H H' := k.mono (by simp)
theorem tyX_keep {K : PySem.W.Frag} {H H' : Hp} {x : V} {t : Value} (h : TyX K H x t) (k : Keep [] H H') : TyX K H' x t := by
  have g : ∀ {a : Addr} {o : HO}, H a = some o → H' a = some o := fun e => k.get e (by simp)
  cases h with
  | base b =>
    cases b with
    | non => exact .base .non
    | bl y => exact .base (.bl y)
    | int i => exact .base (.int i)
    | str y => exact .base (.str y)
    | flt y => exact .base (.flt y)
    | lst e => exact .base (.lst (g e))
    | frz e => exact .base (.frz (g e))
    | tup e => exact .base (.tup (g e))
    | dK e => exact .base (.dK (g e))
    | dT e => exact .base (.dT (g e))
    | ins e c1 c2 c3 c4 c5 => exact .base (.ins (g e) c1 c2 c3 c4 c5)
  | byt y => exact .byt y
  | set e => exact .set (g e)
  | kList e c => exact .kList e c
  | kTuple e c => exact .kTuple e c
  | kDict e c => exact .kDict e c
  | fTuple e => exact .fTuple (g e)
  | fDict e => exact .fDict (g e)
theorem NotStr.keep {K : PySem.W.Frag} {H H' : Hp} {v : V} (h : NotStr K H v) (k : Keep [] H H') : NotStr K H' v := by
  obtain ⟨T, ty, e⟩ := h
  exact ⟨T, tyX_keep ty k, e⟩

/-! ### names and paths as lists of codes -/
def isLow (c : Nat) : Bool := decide (97 ≤ c ∧ c ≤ 122)
def nameL (l : List Nat) : Bool := decide (1 ≤ l.length ∧ l.length ≤ 8) && l.all isLow
def pathL : List Nat → Bool
  | 47 :: r => r.isEmpty || (cut1 47 [] r).all nameL
  | _ => false
theorem low_in (c : Nat) : decide (c ∈ tl "abcdefghijklmnopqrstuvwxyz") = isLow c := by
  have e : tl "abcdefghijklmnopqrstuvwxyz" = [97, 98, 99, 100, 101, 102, 103, 104, 105, 106, 107, 108, 109, 110, 111, 112, 113, 114, 115, 116, 117, 118, 119, 120, 121, 122] := by decide
  rw [e]
  refine decide_eq_decide.mpr ?_
  simp only [List.mem_cons, List.not_mem_nil, or_false]
  omega
/-- of no class that answers isinstance(.., str) -/
def NoStr (K : PySem.W.Frag) (H : Hp) (v : V) : Prop := ∃ t, TyX K H v t ∧ PySem.W.kitOne K t (.type "str") = some false
theorem NotStr.no {K : PySem.W.Frag} {H : Hp} {v : V} (h : NotStr K H v) : NoStr K H v := by
  obtain ⟨T, ty, e⟩ := h
  exact ⟨_, ty, kit_ty e⟩
theorem NoStr.keep {K : PySem.W.Frag} {H H' : Hp} {v : V} (h : NoStr K H v) (k : Keep [] H H') : NoStr K H' v := by
  obtain ⟨T, ty, e⟩ := h
  exact ⟨T, tyX_keep ty k, e⟩
theorem w_isiV {K : PySem.W.Frag} {H : Hp} {Q : VK} {x : V} {t : Value} {n : String} {b : Bool} (h : TyX K H x t) (e : PySem.W.kitOne K t (.type n) = some b) (q : Q (.bl b) H) : rIsi K [x, .ty n] H Q := ⟨x, .ty n, t, .type n, b, rfl, .ty n, h, e, q⟩
def spIsName (K : PySem.W.Frag) : Sp := fun vs H Q _ => ∃ v, vs = [v] ∧ ((∃ z, v = .str z ∧ z.length ≤ 1000000 ∧ ∀ H', Keep [] H H' → Q (.bl (nameL (tl z))) H') ∨ (NoStr K H v ∧ Q (.bl false) H))
def spIsPath (K : PySem.W.Frag) : Sp := fun vs H Q _ => ∃ v, vs = [v] ∧ ((∃ z, v = .str z ∧ z.length ≤ 1000000 ∧ ∀ H', Keep [] H H' → Q (.bl (pathL (tl z))) H') ∨ (NoStr K H v ∧ Q (.bl false) H))
def spIsList (K : PySem.W.Frag) : Sp := fun vs H Q _ => ∃ v t b, vs = [v] ∧ TyX K H v t ∧ PySem.W.kitAny K t [.type "list", .type "tuple"] = some b ∧ ∀ H', Keep [] H H' → Q (.bl b) H'
theorem isName_go {K : PySem.W.Frag} {z : Str} {H : Hp} {Q : VK} {E : XK} (hz : z.length ≤ 1000000) (q : ∀ H', Keep [] H H' → Q (.bl (nameL (tl z))) H') : spIsName K [.str z] H Q E := ⟨_, rfl, .inl ⟨z, rfl, hz, q⟩⟩
theorem isPath_go {K : PySem.W.Frag} {z : Str} {H : Hp} {Q : VK} {E : XK} (hz : z.length ≤ 1000000) (q : ∀ H', Keep [] H H' → Q (.bl (pathL (tl z))) H') : spIsPath K [.str z] H Q E := ⟨_, rfl, .inl ⟨z, rfl, hz, q⟩⟩
theorem w_all {K : PySem.W.Frag} {H : Hp} {Q : VK} {p : Addr} {bs : List Bool} (e : H p = some (.lst (bs.map V.bl))) (q : Q (.bl (bs.all id)) H) : rAll K [.ref p] H Q := ⟨p, bs, rfl, SqL.of e, q⟩
theorem w_any {K : PySem.W.Frag} {H : Hp} {Q : VK} {p : Addr} {bs : List Bool} (e : H p = some (.lst (bs.map V.bl))) (q : Q (.bl (bs.any id)) H) : rAny K [.ref p] H Q := ⟨p, bs, rfl, SqL.of e, q⟩
theorem all_id {α : Type} (f : α → Bool) (l : List α) : (l.map f).all id = l.all f := by
  rw [List.all_map]
  rfl
theorem any_id {α : Type} (f : α → Bool) (l : List α) : (l.map f).any id = l.any f := by
  rw [List.any_map]
  rfl
theorem cutS_from1 (c : Nat) (r : List Nat) : cutS (mkS (c :: r)) (some 1) none = mkS r := by
  refine TL.ext_tl ?_
  show ((c :: r).drop (HT.sIx (mkS (c :: r)).length 0 (some 1))).take (HT.sIx (mkS (c :: r)).length (mkS (c :: r)).length none - HT.sIx (mkS (c :: r)).length 0 (some 1)) = r
  have e : (mkS (c :: r)).length = r.length + 1 := rfl
  rw [e, show HT.sIx (r.length + 1) 0 (some 1) = min 1 (r.length + 1) from HT.sIx_nat _ 0 1, HT.sIx_none, show min 1 (r.length + 1) = 1 by omega]
  simp
def slash : List Nat → Bool
  | c :: _ => decide (c = 47)
  | [] => false
theorem starts_slash (z : Str) : Txt.startswith z "/" = slash (tl z) := by
  have hy : TL.tl "/" ≠ [] := by decide
  have h := TL.at_iff (x := z) (y := "/") hy 0
  have hp : TL.pre (TL.tl "/") ((TL.tl z).drop 0) = slash (tl z) := by
    show TL.pre [47] (tl z) = slash (tl z)
    cases tl z with
    | nil => rfl
    | cons c r =>
      show ([c] == [47]) = decide (c = 47)
      by_cases e : c = 47 <;> simp [e]
  rw [hp] at h
  cases hs : slash (tl z) with
  | true =>
    have := h.mpr hs
    have h1 : 0 + Str.length "/" ≤ z.length := this.1
    show (decide (0 + Str.length "/" ≤ z.length) && _) = true
    rw [decide_eq_true h1, this.2]
    rfl
  | false =>
    refine Bool.eq_false_iff.mpr fun q => ?_
    have q : (decide (0 + Str.length "/" ≤ z.length) && Builtin.Str.subAt z "/" 0) = true := q
    rw [Bool.and_eq_true] at q
    have := h.mp ⟨of_decide_eq_true q.1, q.2⟩
    rw [hs] at this
    cases this
theorem slash_cons {l : List Nat} (h : slash l = true) : ∃ r, l = 47 :: r := by
  cases l with
  | nil => cases h
  | cons c r => exact ⟨r, by rw [show c = 47 from of_decide_eq_true h]⟩
theorem path_no {l : List Nat} (h : slash l = false) : pathL l = false := by
  cases l with
  | nil => rfl
  | cons c r =>
    have hc : c ≠ 47 := of_decide_eq_false h
    unfold pathL
    split
    · rename_i h2
      simp at h2
      exact absurd h2.1 hc
    · rfl
theorem cut1_part (c : Nat) : ∀ (l acc : List Nat), ∀ x ∈ cut1 c acc l, x.length ≤ acc.length + l.length
  | [], acc, x, h => by
    have : x = acc := by simpa [cut1] using h
    rw [this]
    omega
  | d :: r, acc, x, h => by
    unfold cut1 at h
    split at h
    · rcases List.mem_cons.mp h with h | h
      · rw [h]
        omega
      · have := cut1_part c r [] x h
        simp only [List.length_nil, List.length_cons] at this ⊢
        omega
    · have := cut1_part c r (acc ++ [d]) x h
      simp only [List.length_append, List.length_cons, List.length_nil] at this ⊢
      omega
theorem Bag.out {H : Hp} {b p : Addr} {n : Nat} {o : HO} (hB : Bag H b n) (e : H p = some o) (h : ∀ x y z : Int, o ≠ .lst [.int x, .int y, .int z]) : p ∉ [b] := by
  obtain ⟨x, y, z, e2, _⟩ := hB
  intro hp
  have : p = b := by simpa using hp
  subst this
  rw [e] at e2
  exact h x y z (Option.some.inj e2)
theorem Bag.take {H H' : Hp} {b p : Addr} {n : Nat} {o : HO} (hB : Bag H b n) (k : Keep [b] H H') (e : H p = some o) (h : ∀ x y z : Int, o ≠ .lst [.int x, .int y, .int z]) : H' p = some o := k.get e (hB.out e h)
/-! things of any kind -/
def Plain (T : String) : Prop := T = "NoneType" ∨ T = "bool" ∨ T = "int" ∨ T = "list" ∨ T = "tuple" ∨ T = "dict"
def Thing (K : PySem.W.Frag) (H : Hp) (v : V) : Prop := (∃ z, v = .str z ∧ z.length ≤ 10000 ∧ Asc z) ∨ (∃ T, TyX K H v (.type T) ∧ Plain T)
theorem Thing.keep {K : PySem.W.Frag} {H H' : Hp} {v : V} (h : Thing K H v) (k : Keep [] H H') : Thing K H' v := by
  rcases h with h | ⟨T, ty, p⟩
  · exact .inl h
  · exact .inr ⟨T, tyX_keep ty k, p⟩
theorem Plain.noStr {K : PySem.W.Frag} {H : Hp} {v : V} {T : String} (p : Plain T) (ty : TyX K H v (.type T)) : NoStr K H v := by
  refine ⟨_, ty, kit_ty ?_⟩
  rcases p with rfl | rfl | rfl | rfl | rfl | rfl <;> decide +kernel
def isSeq (T : String) : Bool := T == "list" || T == "tuple"
theorem Plain.seq {K : PySem.W.Frag} {T : String} (p : Plain T) : PySem.W.kitAny K (.type T) [.type "list", .type "tuple"] = some (isSeq T) := by
  rcases p with rfl | rfl | rfl | rfl | rfl | rfl
  · exact kitAny_cons (b := false) (kit_ty (by decide +kernel)) (fun _ => kitAny_cons (b := false) (kit_ty (by decide +kernel)) (fun _ => kitAny_nil) (fun z => by cases z)) (fun z => by cases z)
  · exact kitAny_cons (b := false) (kit_ty (by decide +kernel)) (fun _ => kitAny_cons (b := false) (kit_ty (by decide +kernel)) (fun _ => kitAny_nil) (fun z => by cases z)) (fun z => by cases z)
  · exact kitAny_cons (b := false) (kit_ty (by decide +kernel)) (fun _ => kitAny_cons (b := false) (kit_ty (by decide +kernel)) (fun _ => kitAny_nil) (fun z => by cases z)) (fun z => by cases z)
  · exact kitAny_cons (b := true) (kit_ty (by decide +kernel)) (fun z => by cases z) (fun _ => rfl)
  · exact kitAny_cons (b := false) (kit_ty (by decide +kernel)) (fun _ => kitAny_cons (b := true) (kit_ty (by decide +kernel)) (fun z => by cases z) (fun _ => rfl)) (fun z => by cases z)
  · exact kitAny_cons (b := false) (kit_ty (by decide +kernel)) (fun _ => kitAny_cons (b := false) (kit_ty (by decide +kernel)) (fun _ => kitAny_nil) (fun z => by cases z)) (fun z => by cases z)
theorem str_seq {K : PySem.W.Frag} : PySem.W.kitAny K (.type "str") [.type "list", .type "tuple"] = some false :=
  kitAny_cons (b := false) (kit_ty (by decide +kernel)) (fun _ => kitAny_cons (b := false) (kit_ty (by decide +kernel)) (fun _ => kitAny_nil) (fun z => by cases z)) (fun z => by cases z)
theorem thing_str {K : PySem.W.Frag} {H : Hp} {z : Str} (h : z.length ≤ 10000) (ha : Asc z) : Thing K H (.str z) := .inl ⟨z, rfl, h, ha⟩
theorem thing_non {K : PySem.W.Frag} {H : Hp} : Thing K H .non := .inr ⟨_, .base .non, .inl rfl⟩
theorem thing_bl {K : PySem.W.Frag} {H : Hp} {b : Bool} : Thing K H (.bl b) := .inr ⟨_, .base (.bl b), .inr (.inl rfl)⟩
theorem thing_int {K : PySem.W.Frag} {H : Hp} {i : Int} : Thing K H (.int i) := .inr ⟨_, .base (.int i), .inr (.inr (.inl rfl))⟩
theorem thing_lst {K : PySem.W.Frag} {H : Hp} {p : Addr} {xs : List V} (h : H p = some (.lst xs)) : Thing K H (.ref p) := .inr ⟨_, .base (.lst h), .inr (.inr (.inr (.inl rfl)))⟩
theorem thing_tup {K : PySem.W.Frag} {H : Hp} {p : Addr} {xs : List V} (h : H p = some (.tup xs)) : Thing K H (.ref p) := .inr ⟨_, .base (.tup h), .inr (.inr (.inr (.inr (.inl rfl))))⟩
theorem thing_dK {K : PySem.W.Frag} {H : Hp} {p : Addr} {xs : List (Key × V)} (h : H p = some (.dK xs)) : Thing K H (.ref p) := .inr ⟨_, .base (.dK h), .inr (.inr (.inr (.inr (.inr rfl))))⟩
/-! orders of single signs; a list of texts against [] -/
theorem one_lt (c d : Nat) : decide (tl (mkS [c]) < tl (mkS [d])) = decide (c < d) := by
  refine decide_eq_decide.mpr ?_
  show [c] < [d] ↔ c < d
  rw [List.cons_lt_cons_iff]
  constructor
  · rintro (h | ⟨_, h⟩)
    · exact h
    · exact absurd h (List.not_lt_nil _)
  · exact fun h => .inl h
theorem eqv_strs_nil (l : List Str) : PyData.eqv (.list (l.map PyData.str)) (.list []) = l.isEmpty := by
  cases l <;> simp [PyData.eqv, PyData.eqvAll]
theorem shaped_nil : SeqAt.shaped (.list []) = true := rfl
theorem w_cat {H : Hp} {Q : VK} {p q : Addr} {xs zs : List V} (h1 : H p = some (.lst xs)) (h2 : H q = some (.lst zs)) (hl : xs.length + zs.length ≤ 16777216) (k : ∀ r, H r = none → Q (.ref r) (upd H r (.lst (xs ++ zs)))) : rCat (.ref p) (.ref q) H Q := ⟨p, q, xs, zs, rfl, rfl, h1, h2, le_line hl, k⟩
theorem w_isiT2 {K : PySem.W.Frag} {H : Hp} {Q : VK} {x : V} {t : Value} {b : Bool} {p : Addr} (e : H p = some (.tup [.ty "list", .ty "tuple"])) (h : TyX K H x t) (hk : PySem.W.kitAny K t [.type "list", .type "tuple"] = some b) (q : Q (.bl b) H) : rIsiT K [x, .ref p] H Q :=
  ⟨x, p, _, t, _, b, rfl, e, .cons (.ty _) (.cons (.ty _) .nil), h, hk, q⟩
theorem w_disp {trs : List (TE × TE)} {σ : L2.St} {H : Hp} {Q : VK} (h : ∀ p, H p = none → tPairs trs σ (upd H p (.dK [])) fun ps H2 => H2 p = some (.dK []) ∧ ∃ kvs : List (Key × V), ps = kvs.map (fun kv => (kV kv.1, kv.2)) ∧ kvs.length ≤ 15 ∧ Q (.ref p) (upd H2 p (.dK (mergeK [] kvs)))) : tDisp trs σ H Q := h
theorem w_pcons {tk tv : TE} {r : List (TE × TE)} {σ : L2.St} {H : Hp} {QP : List (V × V) → Hp → Prop} (h : tk σ H fun x H1 => tv σ H1 fun y H2 => tPairs r σ H2 fun ps H3 => QP ((x, y) :: ps) H3) : tPairs ((tk, tv) :: r) σ H QP := h
theorem w_pnil {σ : L2.St} {H : Hp} {QP : List (V × V) → Hp → Prop} (h : QP [] H) : tPairs [] σ H QP := h

/-! rules whose readings name the written part, for the inside of a comprehension -/
section
variable {X : Cx} {K : PySem.W.Frag}
theorem call_isiB (e : X.K = K) : CallR X (.builtin "isinstance") (rIsi K) := by subst e; exact call_isi
theorem call_isiTB (e : X.K = K) : CallR X (.builtin "isinstance") (rIsiT K) := by subst e; exact call_isiT
theorem ix_listB (e : X.K = K) : IxR X (rIxL K) := by subst e; exact ix_list
theorem ix_tupB (e : X.K = K) : IxR X (rIxT K) := by subst e; exact ix_tup
theorem op_in_seqB (e : X.K = K) : OpR X (compareOp .In) (rIn K false) := by subst e; exact op_in_seq
theorem op_notIn_seqB (e : X.K = K) : OpR X (compareOp .NotIn) (rIn K true) := by subst e; exact op_notIn_seq
theorem op_eqDB (e : X.K = K) (hu : X.A.units + 64 < cLine) : OpR X (compareOp .Eq) (rEqD K) := by subst e; exact op_eqD hu
theorem op_neDB (e : X.K = K) (hu : X.A.units + 64 < cLine) : OpR X (compareOp .NotEq) (rNeD K) := by subst e; exact op_neD hu
theorem cr_allB (e : X.K = K) (hc : X.calm = true) : CallR X (.builtin "all") (rAll K) := by subst e; exact cr_all hc
theorem cr_anyB (e : X.K = K) (hc : X.calm = true) : CallR X (.builtin "any") (rAny K) := by subst e; exact cr_any hc
end
theorem tyX_keepB {K : PySem.W.Frag} {H H' : Hp} {b : Addr} {n m : Nat} {x : V} {t : Value} (h : TyX K H x t) (k : Keep [b] H H') (hB : Bag H b n) (hB' : Bag H' b m) : TyX K H' x t := by
  obtain ⟨x1, y1, z1, eb, _⟩ := hB
  obtain ⟨x2, y2, z2, eb2, _⟩ := hB'
  have g : ∀ {a : Addr} {o : HO}, H a = some o → (∀ xs, o ≠ .lst xs) → H' a = some o := fun {a o} e hn => k.get e (by
    intro hp
    have : a = b := by simpa using hp
    subst this
    rw [eb] at e
    exact hn _ (Option.some.inj e).symm)
  cases h with
  | base q =>
    cases q with
    | non => exact .base .non
    | bl y => exact .base (.bl y)
    | int i => exact .base (.int i)
    | str y => exact .base (.str y)
    | flt y => exact .base (.flt y)
    | @lst a xs e =>
      by_cases ha : a = b
      · subst ha
        exact .base (.lst eb2)
      · exact .base (.lst (k.get e (by simpa using ha)))
    | frz e => exact .base (.frz (g e (by intro _ h; cases h)))
    | tup e => exact .base (.tup (g e (by intro _ h; cases h)))
    | dK e => exact .base (.dK (g e (by intro _ h; cases h)))
    | dT e => exact .base (.dT (g e (by intro _ h; cases h)))
    | ins e c1 c2 c3 c4 c5 => exact .base (.ins (g e (by intro _ h; cases h)) c1 c2 c3 c4 c5)
  | byt y => exact .byt y
  | set e => exact .set (g e (by intro _ h; cases h))
  | kList e c => exact .kList e c
  | kTuple e c => exact .kTuple e c
  | kDict e c => exact .kDict e c
  | fTuple e => exact .fTuple (g e (by intro _ h; cases h))
  | fDict e => exact .fDict (g e (by intro _ h; cases h))
theorem Thing.keepB {K : PySem.W.Frag} {H H' : Hp} {b : Addr} {n m : Nat} {v : V} (h : Thing K H v) (k : Keep [b] H H') (hB : Bag H b n) (hB' : Bag H' b m) : Thing K H' v := by
  rcases h with h | ⟨T, ty, p⟩
  · exact .inl h
  · exact .inr ⟨T, tyX_keepB ty k hB hB', p⟩
end Fr
set_option Elab.async false
set_option linter.all false
set_option maxRecDepth 100000
set_option maxHeartbeats 4000000
namespace Fr
open PySem PySem.Spec PyProof.Rows L2 PySem.W PySem.Calls

/-! ### a star in a target: *a, b = a list -/
def gStar (K : PySem.W.Frag) (n i : Nat) (t : TGs) : TG := fun v σ H Q => ∃ a xs, v = .ref a ∧ SqL K H a xs ∧ n ≤ xs.length + 1 ∧ xs.length ≤ 16384 ∧
  ∀ p, H p = none → t (xs.take i ++ [.ref p] ++ (xs.drop i).drop (xs.length + 1 - n)) σ (upd H p (.lst ((xs.drop i).take (xs.length + 1 - n)))) Q
section
variable {prog : Program} {w : World} {A : Around} {E : Value → Shared → Prop} {s : Shared}
theorem star_items {l : Addr} {items : Array Value} {n i : Nat} {Q : List Value → Shared → Prop} (hl : s.heap.IsList l items) (hh : A.handled = none) (hi : i < n) (hn : n ≤ items.size + 1) (hz : items.size ≤ 16384)
    (h : ∀ (h' : Heap) tk, (∀ b o, s.heap.get? b = some o → h'.get? b = some o) → Q (items.toList.take i ++ [.ref h'.objs.size] ++ (items.toList.drop i).drop (items.size + 1 - n))
      { s with heap := h'.push { cls := .type "list", data := .seq ((items.toList.drop i).take (items.size + 1 - n)).toArray }, toks := tk }) : wpAny (model prog w) A (unpackItems (.ref l) n (some i)) Q E s := by
  have hlt : l ≠ s.heap.objs.size := by obtain ⟨o, ho, _⟩ := hl; exact Nat.ne_of_lt (Heap.lt_size ho)
  unfold unpackItems
  refine wpAny_bind ?_
  unfold notIterableAtAll
  refine wpAny_bind (wpAny_specialOf hl.typeIs PySem.F.slot_list_iter.lookup ?_)
  refine wpAny_pure ?_
  simp only [Bool.false_eq_true, if_false]
  refine wpAny_bind (wpAny_holding (wpAny_pyIter_list hl ?_))
  refine wpAny_bind (wpAny_holding (kun_draw hlt i 0 _ _ ⟨_, Heap.get?_push_size _ rfl, rfl, rfl⟩ (hl.push _) (by omega) fun h₁ hit₁ hs₁ => ?_))
  have hl₁ : h₁.IsList l items := (hl.push _).extBut hs₁.extBut hlt
  rw [Nat.zero_add] at hit₁
  have hit₁' := hit₁
  obtain ⟨oi, hoi, _⟩ := hit₁'
  have hl₁' := hl₁
  obtain ⟨ol, hol, _⟩ := hl₁'
  rw [List.drop_zero]
  have hfl : (items.toList.take i).length = i := by rw [List.length_take, Array.length_toList]; omega
  rw [if_neg (show ¬ ((items.toList.take i).length < i) by rw [hfl]; omega)]
  refine wpAny_bind (wpAny_holding (kun_collect (s := { s with heap := h₁ }) (T := "list_iterator") (.inr (.inr (.inl rfl))) (Walks.list (A := A.in1) hh s.heap.objs.size l hlt items) (fun j u st => st.1.typeIs) (k := i) (by omega) ⟨hit₁, hl₁⟩ (Heap.lt_size hoi) (Heap.lt_size hol) (fun h₂ tk hk => ?_) (by rw [sizeLine_eq]; omega)))
  have hrl : (items.toList.drop i).length = items.size - i := by rw [List.length_drop, Array.length_toList]
  have hmid : (items.toList.drop i).length - (n - 1 - i) = items.size + 1 - n := by rw [hrl]; omega
  show wpAny _ _ (if (items.toList.drop i).length < n - 1 - i then _ else _) _ _ _
  rw [if_neg (by rw [hrl]; omega)]
  show wpAny _ _ (newList ((items.toList.drop i).take ((items.toList.drop i).length - (n - 1 - i))) >>= fun d => pure (items.toList.take i ++ [d] ++ (items.toList.drop i).drop ((items.toList.drop i).length - (n - 1 - i)))) _ _ _
  rw [hmid]
  have he : ∀ b o, s.heap.get? b = some o → h₂.get? b = some o := fun b o e => hk b o (Nat.ne_of_lt (Heap.lt_size e)) (hs₁.extBut b o (Nat.ne_of_lt (Heap.lt_size e)) (Heap.get?_push_of_some _ e))
  exact wpAny_bind (wpAny_newList (s := { s with heap := h₂, toks := tk }) (wpAny_pure (h h₂ tk he)) (by rw [List.length_take, hrl, sizeLine_eq]; omega))
end
section
variable {X : Cx} {pos : Pos}
theorem vals_drop {xs : List V} {us : List Value} (r : Vals xs us) : ∀ i, Vals (xs.drop i) (us.drop i) := by
  intro i
  induction i generalizing xs us with
  | zero => exact r
  | succ i ih =>
    cases r with
    | nil => exact .nil
    | cons a r => exact ih r
theorem vals_take {xs : List V} {us : List Value} (r : Vals xs us) : ∀ i, Vals (xs.take i) (us.take i) := by
  intro i
  induction i generalizing xs us with
  | zero => exact .nil
  | succ i ih =>
    cases r with
    | nil => exact .nil
    | cons a r => exact .cons a (ih r)
theorem pg_star {es : List Expr} {k : Nat} {t : TGs} {n i : Nat} (hc : X.calm = true) (h : PGs X es t)
    (hn : (assignEach es X.env).length = n := by rfl) (hst : (assignEach es X.env).findIdx? (·.1) = some i := by rfl) (hi : i < n := by decide) : PG X (.Tuple es k pos) (gStar X.K n i t) := by
  refine ⟨fun pins s σ H v u Q I r hw => ?_⟩
  obtain ⟨a, xs, e1, hq, hl, hz, hw⟩ := hw
  subst e1
  cases r
  obtain ⟨its, rv, ht, _⟩ := I.list hq
  have hlen := rv.length
  rw [assign_Tuple]
  refine wpAny_bind (wpAny_standAt ?_)
  unfold unpack
  rw [hn, hst]
  have hs : its.toArray.size = its.length := by simp
  refine wpAny_bind (wpAny_holding (star_items ht.isList (I.ok.hd hc) hi (by rw [hs, ← hlen]; exact hl) (by rw [hs, ← hlen]; exact hz) fun h' tk hk => ?_))
  have e : its.toArray.toList = its := by simp
  have I0 : Inv X pins σ H { s with heap := h', toks := tk } := I.kept hk
  have hf : H h'.objs.size = none := I0.hok.fresh (Nat.le_refl _)
  have I1 : Inv X pins σ (upd H h'.objs.size (.lst ((xs.drop i).take (xs.length + 1 - n)))) { s with heap := h'.push { cls := .type "list", data := .seq ((its.drop i).take (xs.length + 1 - n)).toArray }, toks := tk } :=
    I0.laid (t' := tk) (fun b u e => Heap.get?_push_of_some _ e) (Nat.le_refl _) ⟨by rw [sizeLine_eq, List.length_take, List.length_drop]; omega, _, 0, vals_take (vals_drop rv i) _, Heap.get?_push_size _ rfl⟩
  rw [e, hs, ← hlen]
  exact h.run pins _ σ _ _ _ Q I1 (((vals_take rv i).append (.cons (show RelV (V.ref h'.objs.size) (Value.ref h'.objs.size) from rfl) .nil)).append (vals_drop (vals_drop rv i) _)) (hw _ hf)
theorem pgs_starred {e : Expr} {es : List Expr} {t : TG} {u : TGs} {p : Pos} (h1 : PG X e t) (h2 : PGs X es u)
    (hs : (assignEach (.Starred e p :: es) X.env).map (·.2) = assign e X.env :: (assignEach es X.env).map (·.2) := by rfl) : PGs X (.Starred e p :: es) (gCons t u) := by
  refine ⟨fun pins s σ H vs us Q I r h => ?_⟩
  obtain ⟨v, vr, e1, h⟩ := h
  subst e1
  cases r with
  | cons r rr =>
    rw [hs]
    refine assignInOrder_cons (thn (h1.run pins s σ H _ _ _ I r h) fun _ s1 ⟨σ1, H1, I1, q1⟩ => ?_)
    exact h2.run pins s1 σ1 H1 _ _ Q I1 rr q1
end
theorem w_gstar {K : PySem.W.Frag} {n i : Nat} {t : TGs} {a : Addr} {xs : List V} {σ : L2.St} {H : Hp} {Q : L2.St → Hp → Prop} (h : SqL K H a xs) (hn : n ≤ xs.length + 1) (hz : xs.length ≤ 16384)
    (k : ∀ p, H p = none → t (xs.take i ++ [.ref p] ++ (xs.drop i).drop (xs.length + 1 - n)) σ (upd H p (.lst ((xs.drop i).take (xs.length + 1 - n)))) Q) : gStar K n i t (.ref a) σ H Q := ⟨a, xs, rfl, h, hn, hz, k⟩

/-! ### a def with *names, called with plain arguments -/
def spStar (m : Nat) (sp : Sp) : Sp := fun vs H Q E => ∃ ws rest, vs = ws ++ rest ∧ ws.length = m ∧ rest.length ≤ sizeLine ∧ ∀ p, H p = Option.none → sp (ws ++ [V.ref p]) (upd H p (.tup rest)) Q E
section
variable {P : Program} {w : World} {K : PySem.W.Frag} {mg : Str → Option Value} {base : Heap} {x qual : Str} {params : Arguments} {body : List Stmt} {scope : Scope} {f : Addr} {fd : FuncData}
theorem _root_.L2.FunD.okStar {N ps : List Str} {pv : Str} {k : Nat} {sp : Sp} (F : FunD K x qual params body scope [] [] f fd) (S : FnScope N (ps ++ [pv]) scope)
    (hb : ∀ (kV doc pm : Value) (an : Option Addr) (cdv ct : Value) (us rest : List Value), us.length = ps.length → bindArgs (PySem.W.fnOf x qual params body scope .none kV doc pm an cdv ct) ⟨us ++ rest, []⟩ = (newTuple rest >>= fun t => pure (ps.zip us ++ [(pv, t)])))
    (hbody : ∀ (cdv : Value) (A : Around) (outer : List Env) (s : Shared) (H : Hp) (vs : List V) (Q : VK) (E : XK), Room k (A.deeper (envOfC qual scope s.heap.objs.size f cdv)) → sp vs H Q E →
      ∃ t, PSs (cxOf CX0 P w K mg base N qual scope f cdv A outer s H E) body t ∧ t { nx := fun _ H' => Q .non H', rt := Q } (start N vs) H) : FnR P w K mg base CX0 (k + 1) f (spStar ps.length sp) := by
  obtain ⟨oc, od, dV, kV, doc, pm, an, cdv, ct, osl, rfl, lk, hcd, hD, hK⟩ := F.ex
  rcases hD with ⟨_, rfl⟩ | ⟨e, _⟩
  · exact StX.fn_star lk hcd S StX.cxUp_none (hb kV doc pm an cdv ct) fun A outer s H vs Q E hr hsp => hbody cdv A outer s H vs Q E hr hsp
  · exact absurd rfl e
end
section
variable {X : Cx} {CX : CXT} {k : Nat} {f : Addr} {sp : Sp} {E : XK} {x : Str} {e : Expr} {es : List Expr} {t : TA} {p pos : Pos}
def tCallR (sp : Sp) (E : XK) (t : TA) : TE := fun σ H Q => t σ H fun vs H1 => sp vs H1 Q E
theorem pe_callR (F : FnR X.prog X.w X.K X.mg X.base CX k f sp) (hr : Room k X.A) (hg : Gl X x) (hm : X.mg x = some (.ref f)) (hk : PySem.W.keepIn X.K (.ref f) = true) (hx : Passes CX X E) (ha : PA X (e :: es) t)
    (hd : (x == ("__debug__" : Str)) = false := by decide)
    (he : starEach (e :: es) X.env = (false, eval e X.env) :: starEach es X.env := by rfl) (hpl : (backTo pos (starEach es X.env)).any (·.1) = false := by rfl) : PE X (.Call (.Name x p) (e :: es) [] pos) (tCallR sp E t) := by
  refine ⟨fun pins s σ H Q I h => ?_⟩
  refine wpAny_Call_Name_kw (ld_glob I hg hm ?_ hd)
  refine PySem.W.callWith_K (h₀ := X.base) I.ok.mod.kin hk (thn (ha.run pos pins s σ H _ I h) fun us s2 ⟨vs, H2, I2, r, q⟩ => ⟨I2.kIn, ?_⟩) he hpl
  exact wpAny_call (run_fnR F hr hx I2 r q)
theorem w_callR {σ : L2.St} {H : Hp} {Q : VK} (h : t σ H fun vs H1 => sp vs H1 Q E) : tCallR sp E t σ H Q := h
end

/-! rules for the inside of a comprehension -/
section
variable {X : Cx} {K : PySem.W.Frag}
def rJoin (K : PySem.W.Frag) : V → List V → Hp → VK → Prop := fun x xs H Q => ∃ a p, ∃ ys : List Str, x = .str a ∧ xs = [.ref p] ∧ (SqL K H p (ys.map V.str) ∨ SqT K H p (ys.map V.str)) ∧ (ys.map (·.length)).sum + ys.length * a.length ≤ 16777216 ∧ Q (.str (Txt.join a ys)) H
theorem pe_joinB {o e : Expr} {to te : TE} {apos pos : Pos} (eK : X.K = K) (ho : PE X o to) (he : PE X e te) (hs : starEach [e] X.env = [(false, eval e X.env)] := by rfl) (hbase : attributeBase o "join" X.env (eval o X.env) = eval o X.env := by rfl) (hline : (apos.endLine == pos.line) = true := by rfl) :
    PE X (.Call (.Attribute o "join" apos) [e] [] pos) (tM1 (rJoin K) to te) := by
  subst eK
  exact pe_join ho he hs hbase hline
theorem sl_listB (e : X.K = K) : SlR X (rSlL K) := by subst e; exact sl_list
def rLenS (K : PySem.W.Frag) : List V → Hp → VK → Prop := fun xs H Q => ∃ p ys, xs = [V.ref p] ∧ (SqL K H p ys ∨ SqT K H p ys) ∧ Q (.int ys.length) H
theorem call_len_seqB (e : X.K = K) : CallR X (.builtin "len") (rLenS K) := by subst e; exact call_len_seq
end
theorem w_join {K : PySem.W.Frag} {H : Hp} {Q : VK} {a : Str} {p : Addr} {ys : List Str} (h : SqL K H p (ys.map V.str)) (hz : (ys.map (·.length)).sum + ys.length * a.length ≤ 16777216) (q : Q (.str (Txt.join a ys)) H) : rJoin K (.str a) [.ref p] H Q := ⟨a, p, ys, rfl, rfl, .inl h, hz, q⟩
theorem w_slL {K : PySem.W.Frag} {H : Hp} {Q : VK} {a : Addr} {xs : List V} {lo hi : Option Int} (h : SqL K H a xs) (k : ∀ p, H p = none → Q (.ref p) (upd H p (.lst (cutV xs lo hi)))) : rSlL K (.ref a) lo hi H Q := ⟨a, xs, rfl, h, k⟩
theorem w_lenSL {K : PySem.W.Frag} {H : Hp} {Q : VK} {p : Addr} {ys : List V} (h : SqL K H p ys) (q : Q (.int ys.length) H) : rLenS K [.ref p] H Q := ⟨p, ys, rfl, .inl h, q⟩
theorem cutV_to (xs : List V) (n : Nat) : cutV xs none (some (n : Int)) = xs.take n := by
  unfold cutV
  rw [HT.sIx_none, HT.sIx_nat, List.drop_zero, Nat.sub_zero]
  by_cases h : n ≤ xs.length
  · rw [Nat.min_eq_left h]
  · rw [Nat.min_eq_right (by omega), List.take_of_length_le (Nat.le_refl _), List.take_of_length_le (by omega)]
theorem cutV_from (xs : List V) (n : Nat) : cutV xs (some (n : Int)) none = xs.drop n := by
  unfold cutV
  rw [HT.sIx_none, HT.sIx_nat]
  by_cases h : n ≤ xs.length
  · rw [Nat.min_eq_left h, List.take_of_length_le (by rw [List.length_drop]; omega)]
  · rw [Nat.min_eq_right (by omega), List.drop_length, List.drop_eq_nil_of_le (by omega)]
    simp

/-! ### loops over a tuple -/
section
variable {K : PySem.W.Frag} {σ : L2.St} {H : Hp} {D : Ends} {g : TG} {tb : TS}
theorem for_tp {a : Addr} {xs : List V} (Pv : Nat → L2.St → Hp → Prop) (h0 : Pv 0 σ H) (hG : ∀ i σ H, i ≤ xs.length → Pv i σ H → SqT K H a xs)
    (hs : ∀ i x σ H, xs[i]? = some x → Pv i σ H → g x σ H fun σ2 H2 => tb { D with nx := Pv (i + 1), ct := Pv (i + 1), bk := D.nx } σ2 H2) (hd : ∀ σ H, Pv xs.length σ H → D.nx σ H) : ForGo (Itt K a) g tb D σ H := by
  refine for_it (walk_tup (K := K) (a := a) (xs := xs)) Pv h0 hG (fun i x σ H H' hi p y => ?_) hd
  obtain ⟨rfl, e⟩ := y
  exact hs i x σ H' e p
end
/-! ### paths by their names -/
def nmV (ns : List (List Nat)) : List V := (ns.map mkS).map V.str
def pth (ns : List (List Nat)) : Str := mkS (47 :: TL.joinL [47] ns)
def Nms (ns : List (List Nat)) : Prop := (∀ n ∈ ns, nameL n = true) ∧ ns.length ≤ 1000
theorem nmV_len (ns : List (List Nat)) : (nmV ns).length = ns.length := by simp [nmV]
theorem nmV_app (a b : List (List Nat)) : nmV (a ++ b) = nmV a ++ nmV b := by simp [nmV]
theorem nmV_take (a : List (List Nat)) (k : Nat) : (nmV a).take k = nmV (a.take k) := by simp [nmV, List.map_take]
theorem nmV_drop (a : List (List Nat)) (k : Nat) : (nmV a).drop k = nmV (a.drop k) := by simp [nmV, List.map_drop]
theorem nmV_get {a : List (List Nat)} {k : Nat} {n : List Nat} (h : a[k]? = some n) : (nmV a)[k]? = some (.str (mkS n)) := by simp [nmV, h]
theorem pth_nil : pth [] = "/" := rfl
theorem Nms.nil : Nms [] := ⟨fun n h => (by cases h), by decide⟩
theorem Nms.take {ns : List (List Nat)} (h : Nms ns) (k : Nat) : Nms (ns.take k) := ⟨fun n hn => h.1 n (List.mem_of_mem_take hn), by rw [List.length_take]; have := h.2; omega⟩
theorem name_len {n : List Nat} (h : nameL n = true) : 1 ≤ n.length ∧ n.length ≤ 8 := by
  unfold nameL at h
  rw [Bool.and_eq_true] at h
  exact of_decide_eq_true h.1
theorem name_low {n : List Nat} (h : nameL n = true) : ∀ c ∈ n, 97 ≤ c ∧ c ≤ 122 := by
  unfold nameL at h
  rw [Bool.and_eq_true, List.all_eq_true] at h
  exact fun c hc => of_decide_eq_true (h.2 c hc)
theorem name_asc {n : List Nat} (h : nameL n = true) : Asc (mkS n) := fun c hc => by
  have := name_low h c hc
  omega
theorem Nms.asc {ns : List (List Nat)} (h : Nms ns) : ∀ z ∈ ns.map mkS, Asc z := fun z hz => by
  obtain ⟨n, hn, rfl⟩ := List.mem_map.mp hz
  exact name_asc (h.1 n hn)
theorem joinL_cons (S a : List Nat) {r : List (List Nat)} (h : r ≠ []) : TL.joinL S (a :: r) = a ++ (S ++ TL.joinL S r) := by
  cases r with
  | nil => exact absurd rfl h
  | cons b r => rfl
theorem cut1_nosep (c : Nat) : ∀ (a acc r : List Nat), (∀ d ∈ a, d ≠ c) → cut1 c acc (a ++ r) = cut1 c (acc ++ a) r
  | [], acc, r, _ => by simp
  | d :: a, acc, r, h => by
    have hd : d ≠ c := h d (List.mem_cons_self ..)
    show cut1 c acc (d :: (a ++ r)) = _
    unfold cut1
    rw [if_neg hd, cut1_nosep c a (acc ++ [d]) r fun e he => h e (List.mem_cons_of_mem _ he)]
    simp only [List.append_assoc, List.cons_append, List.nil_append]
    cases r <;> rfl
theorem cut1_join (c : Nat) : ∀ ns : List (List Nat), ns ≠ [] → (∀ n ∈ ns, ∀ d ∈ n, d ≠ c) → cut1 c [] (TL.joinL [c] ns) = ns
  | [], h, _ => absurd rfl h
  | [n], _, h => by
    have := cut1_nosep c n [] [] (h n (List.mem_cons_self ..))
    simp only [List.append_nil, List.nil_append] at this
    show cut1 c [] n = [n]
    rw [this]
    rfl
  | n :: m :: r, _, h => by
    show cut1 c [] (n ++ ([c] ++ TL.joinL [c] (m :: r))) = _
    rw [cut1_nosep c n [] _ (h n (List.mem_cons_self ..))]
    show cut1 c ([] ++ n) (c :: TL.joinL [c] (m :: r)) = _
    unfold cut1
    rw [if_pos rfl, cut1_join c (m :: r) (by simp) fun x hx => h x (List.mem_cons_of_mem _ hx)]
    rfl
theorem Nms.nosep {ns : List (List Nat)} (h : Nms ns) : ∀ n ∈ ns, ∀ d ∈ n, d ≠ 47 := fun n hn d hd => by
  have := name_low (h.1 n hn) d hd
  omega
theorem Nms.join_len {ns : List (List Nat)} (h : Nms ns) : (TL.joinL [47] ns).length ≤ 9 * ns.length := by
  have h1 := joinL_len [47] ns
  have h2 : (ns.map List.length).sum ≤ (ns.map List.length).length * 8 := sum_le fun x hx => by
    obtain ⟨n, hn, rfl⟩ := List.mem_map.mp hx
    exact (name_len (h.1 n hn)).2
  rw [List.length_map] at h2
  simp only [List.length_cons, List.length_nil] at h1
  omega
theorem Nms.len {ns : List (List Nat)} (h : Nms ns) : (pth ns).length ≤ 9001 := by
  have := h.join_len
  have := h.2
  show (47 :: TL.joinL [47] ns).length ≤ 9001
  rw [List.length_cons]
  omega
theorem join_ne {ns : List (List Nat)} (h : Nms ns) (hn : ns ≠ []) : TL.joinL [47] ns ≠ [] := by
  cases ns with
  | nil => exact absurd rfl hn
  | cons n r =>
    have hl := (name_len (h.1 n (List.mem_cons_self ..))).1
    intro e
    have e2 := congrArg List.length e
    cases r with
    | nil =>
      have : n.length = 0 := e2
      omega
    | cons m r =>
      rw [joinL_cons _ _ (by simp), List.length_append] at e2
      simp only [List.length_nil] at e2
      omega
theorem Nms.path {ns : List (List Nat)} (h : Nms ns) : pathL (tl (pth ns)) = true := by
  show ((TL.joinL [47] ns).isEmpty || (cut1 47 [] (TL.joinL [47] ns)).all nameL) = true
  by_cases hn : ns = []
  · subst hn
    rfl
  · rw [cut1_join 47 ns hn h.nosep, Bool.or_eq_true]
    exact .inr (List.all_eq_true.mpr h.1)
theorem pth_inj {a b : List (List Nat)} (ha : Nms a) (hb : Nms b) (e : pth a = pth b) : a = b := by
  have e : TL.joinL [47] a = TL.joinL [47] b := (List.cons.inj (mkS_inj e)).2
  by_cases h1 : a = []
  · subst h1
    by_cases h2 : b = []
    · exact h2.symm
    · exact absurd e.symm (join_ne hb h2)
  · by_cases h2 : b = []
    · subst h2
      exact absurd e (join_ne ha h1)
    · rw [← cut1_join 47 a h1 ha.nosep, e, cut1_join 47 b h2 hb.nosep]
theorem mkS_join (ns : List (List Nat)) : Txt.join "/" (ns.map mkS) = mkS (TL.joinL [47] ns) := by
  refine TL.ext_tl ?_
  show tl _ = tl _
  rw [tl_join, List.map_map]
  show TL.joinL [47] (ns.map (tl ∘ mkS)) = _
  have : (tl ∘ mkS) = id := rfl
  rw [this, List.map_id]
  rfl
theorem slash_join (ns : List (List Nat)) : ("/" : Str) ++ Txt.join "/" (ns.map mkS) = pth ns := by
  rw [mkS_join, show ("/" : Str) = mkS [47] from rfl, mkS_app]
  rfl
theorem Nms.sum {ns : List (List Nat)} (h : Nms ns) : ((ns.map mkS).map (·.length)).sum + (ns.map mkS).length * 1 ≤ 9000 := by
  have h2 : ((ns.map mkS).map (·.length)).sum ≤ ((ns.map mkS).map (·.length)).length * 8 := sum_le fun x hx => by
    obtain ⟨z, hz, rfl⟩ := List.mem_map.mp hx
    obtain ⟨n, hn, rfl⟩ := List.mem_map.mp hz
    exact (name_len (h.1 n hn)).2
  have := h.2
  simp only [List.length_map] at h2 ⊢
  omega
theorem Nms.pasc {ns : List (List Nat)} (h : Nms ns) : Asc (pth ns) := fun c hc => by
  have hc : c ∈ 47 :: TL.joinL [47] ns := hc
  rcases List.mem_cons.mp hc with z | z
  · omega
  · rcases mem_joinL z with z | ⟨n, hn, z⟩
    · have : c = 47 := by simpa using z
      omega
    · have := name_low (h.1 n hn) c z
      omega

/-! what the functions of paths promise -/
def spNeedPath : Sp := fun vs H Q _ => ∃ ns, vs = [.str (pth ns)] ∧ Nms ns ∧ ∀ H', Keep [] H H' → Q .non H'
def spParts : Sp := fun vs H Q _ => ∃ ns, vs = [.str (pth ns)] ∧ Nms ns ∧ ∀ p H', H p = none → Keep [] H H' → H' p = some (.lst (nmV ns)) → Q (.ref p) H'
def spPathBy : Sp := fun vs H Q _ => ∃ a ns, vs = [.ref a] ∧ Nms ns ∧ H a = some (.lst (nmV ns)) ∧ Q (.str (pth ns)) H
def spJoined : Sp := fun vs H Q _ => ∃ ns ms p, vs = [.str (pth ns), .ref p] ∧ Nms (ns ++ ms) ∧ H p = some (.tup (nmV ms)) ∧ ∀ H', Keep [] H H' → Q (.str (pth (ns ++ ms))) H'
def aboveV (ns : List (List Nat)) : V := if ns = [] then .non else .str (pth ns.dropLast)
def spAbove : Sp := fun vs H Q _ => ∃ ns, vs = [.str (pth ns)] ∧ Nms ns ∧ ∀ H', Keep [] H H' → Q (aboveV ns) H'
def below (ns ms : List (List Nat)) : Bool := decide (ms.length < ns.length) && decide (ns.take ms.length = ms)
def spBelow : Sp := fun vs H Q _ => ∃ ns ms, vs = [.str (pth ns), .str (pth ms)] ∧ Nms ns ∧ Nms ms ∧ ∀ H', Keep [] H H' → Q (.bl (below ns ms)) H'
theorem eqv_strs (a b : List (List Nat)) : PyData.eqv (.list ((a.map mkS).map PyData.str)) (.list ((b.map mkS).map PyData.str)) = decide (a = b) := by
  have key : ∀ a b : List (List Nat), PyData.eqvAll ((a.map mkS).map PyData.str) ((b.map mkS).map PyData.str) = decide (a = b) := by
    intro a
    induction a with
    | nil => intro b; cases b <;> simp [PyData.eqvAll]
    | cons x a ih =>
      intro b
      cases b with
      | nil => simp [PyData.eqvAll]
      | cons y b =>
        simp only [List.map_cons, PyData.eqvAll, ih]
        have : PyData.eqv (PyData.str (mkS x)) (PyData.str (mkS y)) = decide (x = y) := by
          by_cases h : x = y
          · subst h
            simp [PyData.eqv]
          · have h2 : mkS x ≠ mkS y := fun z => h (mkS_inj z)
            simp [PyData.eqv, h, h2]
        rw [this]
        by_cases h : x = y <;> simp [h]
  unfold PyData.eqv
  exact key a b
theorem dp_lst {K : PySem.W.Frag} {H : Hp} {p : Addr} {ns : List (List Nat)} (h : H p = some (.lst (nmV ns))) : Dp K H (.ref p) (.list ((ns.map mkS).map PyData.str)) := .lst (SqL.of h) (dp_strs _)
theorem Nms.shaped {ns : List (List Nat)} (h : Nms ns) : SeqAt.shaped (.list ((ns.map mkS).map PyData.str)) = true := shaped_strs h.asc

theorem mul_one (c : Nat) {k : Int} (h : 0 ≤ k) : Txt.mul (mkS [c]) k = mkS (List.replicate k.toNat c) := by
  refine TL.ext_tl ?_
  show tl _ = tl _
  rw [tl_mul h, tl_mkS, tl_mkS]
  induction k.toNat with
  | zero => rfl
  | succ n ih =>
    rw [List.replicate_succ, List.flatten_cons, ih]
    rfl
theorem low_at {r : Nat} {c : Nat} (h : (tl "abcdefghijklmnopqrstuvwxyz")[r]? = some c) : isLow c = true := by
  rw [← low_in]
  exact decide_eq_true (List.mem_of_getElem? h)
theorem name_rep {c k : Nat} (h : isLow c = true) (h1 : 1 ≤ k) (h2 : k ≤ 8) : nameL (List.replicate k c) = true := by
  unfold nameL
  rw [List.length_replicate, decide_eq_true ⟨h1, h2⟩, Bool.true_and, List.all_eq_true]
  intro d hd
  rw [List.eq_of_mem_replicate hd]
  exact h
theorem atI_of {xs : List V} {a : Int} {j : Nat} {v : V} (h : xs[j]? = some v) (e : a = (j : Nat)) : atI xs a = some v := by
  subst e
  exact atI_nat h
/-- all the ways up -/
def ups (ns : List (List Nat)) : List Str := (List.range (ns.length + 1)).map fun k => pth (ns.take (ns.length - k))
theorem ups_len (ns : List (List Nat)) : (ups ns).length = ns.length + 1 := by simp [ups]
theorem ups_get {ns : List (List Nat)} {k : Nat} (h : k ≤ ns.length) : (ups ns)[k]? = some (pth (ns.take (ns.length - k))) := by
  unfold ups
  rw [List.getElem?_map, List.getElem?_range (by omega)]
  rfl
theorem ups_getV {ns : List (List Nat)} {k : Nat} (h : k ≤ ns.length) : ((ups ns).map V.str)[k]? = some (.str (pth (ns.take (ns.length - k)))) := by
  rw [List.getElem?_map, ups_get h]
  rfl
def roadV (ns : List (List Nat)) (i : Nat) : V := if i ≤ ns.length then .str (pth (ns.take (ns.length - i))) else .non
theorem aboveV_road {ns : List (List Nat)} {i : Nat} (h : i ≤ ns.length) : aboveV (ns.take (ns.length - i)) = roadV ns (i + 1) := by
  unfold aboveV roadV
  by_cases h2 : i = ns.length
  · subst h2
    rw [if_pos (by simp), if_neg (by omega)]
  · have hl : (ns.take (ns.length - i)).length = ns.length - i := by rw [List.length_take]; omega
    rw [if_neg (fun e => by rw [e] at hl; simp only [List.length_nil] at hl; omega), if_pos (by omega), List.dropLast_eq_take, hl, List.take_take]
    rw [show min (ns.length - i - 1) (ns.length - i) = ns.length - (i + 1) by omega]
theorem below_take {ns : List (List Nat)} {a b : Nat} (h : a < b) (hb : b ≤ ns.length) : below (ns.take b) (ns.take a) = true := by
  unfold below
  rw [List.length_take, List.length_take, Nat.min_eq_left (by omega), Nat.min_eq_left hb, decide_eq_true h, List.take_take, Nat.min_eq_left (by omega), decide_eq_true rfl]
  rfl
theorem below_ups {ns ms : List (List Nat)} (hN : Nms ns) (hM : Nms ms) : decide (pth ms ∈ (ups ns).drop 1) = below ns ms := by
  by_cases h : ms.length < ns.length ∧ ns.take ms.length = ms
  · have e : below ns ms = true := by
      unfold below
      rw [decide_eq_true h.1, decide_eq_true h.2]
      rfl
    rw [e]
    refine decide_eq_true ?_
    refine List.mem_of_getElem? (i := ns.length - ms.length - 1) ?_
    rw [List.getElem?_drop, show 1 + (ns.length - ms.length - 1) = ns.length - ms.length by omega, ups_get (by omega), show ns.length - (ns.length - ms.length) = ms.length by omega, h.2]
  · have e : below ns ms = false := by
      unfold below
      rw [← Bool.decide_and]
      exact decide_eq_false h
    rw [e]
    refine decide_eq_false fun hm => h ?_
    obtain ⟨k, hk⟩ := List.getElem?_of_mem hm
    rw [List.getElem?_drop] at hk
    have hl := (List.getElem?_eq_some_iff.mp hk).1
    rw [ups_len] at hl
    rw [ups_get (by omega)] at hk
    have e2 := pth_inj (hN.take _) hM (Option.some.inj hk)
    have e3 := congrArg List.length e2
    rw [List.length_take, Nat.min_eq_left (by omega)] at e3
    refine ⟨by omega, ?_⟩
    rw [← e3]
    exact e2
theorem below_not {ns ms : List (List Nat)} (h : below ns ms = true) : below ms ns = false := by
  unfold below at h ⊢
  rw [Bool.and_eq_true] at h
  have := of_decide_eq_true h.1
  rw [decide_eq_false (by omega)]
  rfl
end Fr
namespace K03
open PySem PySem.Spec PyProof.Rows L2 Fr
local macro_rules | `(tactic| walk_at "st") => `(tactic| first | assumption | exact upd_same | (refine stay ?_ (by assumption); walk_at "st"))
local macro_rules | `(tactic| walk_at "sq") => `(tactic| first | assumption | (refine SqT.of ?_; walk_at "st") | (refine SqL.of ?_; walk_at "st"))
local macro_rules | `(tactic| walk_at "nb") => `(tactic| (intro _ _ _ h; cases h))
local macro_rules | `(tactic| walk_at "hp") => `(tactic| first | assumption | exact upd_same | (refine (upd_ne ?n).trans ?m; (case n => walk_at "ne"); case m => walk_at "hp"))
local macro_rules | `(tactic| walk_at "ne") => `(tactic| first | assumption | exact Ne.symm (by assumption) | exact ne_of_none (by assumption) (by assumption) | exact Ne.symm (ne_of_none (by assumption) (by assumption)))
local macro_rules | `(tactic| walk_at "s") => `(tactic| first
  | with_reducible refine w_seq ?_ | with_reducible refine w_next ?_ | with_reducible refine w_ret ?_ | with_reducible refine w_asg ?_ | with_reducible refine w_ifS ?_
  | with_reducible refine w_drop ?_ | with_reducible refine w_retN ?_ | with_reducible refine w_gname ?_ | with_reducible refine w_gsub ?_ | with_reducible refine w_par ?_
  | with_reducible refine w_op ?_ | with_reducible refine w_c ?_ | with_reducible refine w_un ?_ | with_reducible refine w_cons ?_ | with_reducible refine w_nil ?_ | with_reducible refine w_cb ?_ | with_reducible refine w_call ?_
  | ((with_reducible show tVar _ _ _ _); refine w_var rfl ?_)
  | with_reducible refine w_I0 ?_ | with_reducible refine w_U ?_ | with_reducible refine w_test ?_ | with_reducible refine w_B ?_ | with_reducible refine w_and ?_ | with_reducible refine w_or ?_ | with_reducible refine w_not ?_ | with_reducible refine w_yes ?_
  | with_reducible refine w_if ?_ | with_reducible refine w_lst ?_ | with_reducible refine w_tup ?_ | with_reducible refine w_andV ?_ | with_reducible refine w_orV ?_ | with_reducible refine w_notV ?_ | with_reducible refine w_orT ?_ | with_reducible refine w_chain ?_
  | with_reducible refine w_m1 ?_ | with_reducible refine w_isS ?_ | with_reducible refine w_bm ?_ | with_reducible refine w_bm0 ?_ | with_reducible refine w_sl ?_ | with_reducible refine w_noPart ?_ | with_reducible refine w_part ?_
  | ((with_reducible refine' w_I ?hc_I ?_); case hc_I => first | omega | exact ⟨by decide, by decide⟩ | exact Or.inl ⟨by decide, by decide⟩ | exact Or.inr ⟨by decide, by decide⟩ | (refine ⟨?_, ?_⟩ <;> omega) | (refine ⟨by decide, by decide, ?_⟩; omega) | (refine Or.inl ⟨?_, ?_⟩ <;> omega) | (refine Or.inr ⟨?_, ?_⟩ <;> omega) | decide)
  | ((with_reducible refine' w_eq ?hs_eq ?_); case hs_eq => rfl) | ((with_reducible refine' w_ne ?hs_ne ?_); case hs_ne => rfl)
  | ((with_reducible refine' w_ixL ?h_ix ?ha_ix ?_); (case h_ix => walk_at "hp"); case ha_ix => first | rfl | exact at_head)
  | ((with_reducible refine' w_ixLS ?h_ix ?ha_ix ?_); (case h_ix => walk_at "sq"); case ha_ix => first | rfl | exact at_head)
  | ((with_reducible refine' w_setL ?h_ix ?ha_ix ?_); (case h_ix => walk_at "hp"); case ha_ix => first | rfl | exact at_head)
  | ((with_reducible refine' w_ixT ?h_ix ?ha_ix ?_); (case h_ix => walk_at "sq"); case ha_ix => first | rfl | exact at_head)
  | ((with_reducible refine' w_aug ?h_var ?_); case h_var => rfl) | with_reducible refine w_ipI ?_
  | ((with_reducible show gTup _ _ _ _ _ _ _); refine' w_gtup (SqT.of ?h_ix) ?ha_ix ?_; (case h_ix => walk_at "st"); (case ha_ix => rfl)) | with_reducible refine w_gcons ?_ | with_reducible refine w_gnil ?_
  | ((with_reducible refine' w_tyL ?h_ix ?_); case h_ix => walk_at "hp")
  | with_reducible refine iteT ?_ | with_reducible refine iteF ?_ | with_reducible refine w_nT ?_ | with_reducible refine w_nF ?_ | with_reducible refine w_callZ ?_
  | ((with_reducible refine' w_addT ?h_add ?_); case h_add => ((try simp only [app_len, mkS_len, List.length_cons, List.length_nil]); omega)) | ((with_reducible refine' w_slS ?h_add ?_); case h_add => exact le_line (by (try simp only [app_len, mkS_len, List.length_cons, List.length_nil]); omega))
  | with_reducible refine w_dnewK ?_ | with_reducible refine w_disp ?_ | with_reducible refine w_pcons ?_ | with_reducible refine w_pnil ?_
  | with_reducible refine w_for ?_ | with_reducible refine w_lc ?_ | with_reducible refine w_iStr ?_ | with_reducible refine w_iList ?_ | with_reducible refine w_iTup ?_ | with_reducible refine w_iRng1 ?_
  | ((with_reducible show _ ≤ sizeLine ∧ _); refine ⟨le_line (by first | omega | exact Nat.le_of_ble_eq_true rfl | decide), ?_⟩)
  | with_reducible refine ⟨_, rfl, ?_⟩ | with_reducible refine ⟨_, _, rfl, ?_⟩ | with_reducible refine ⟨rfl, ?_⟩)
local macro_rules | `(tactic| walk_at "ss") => `(tactic| repeat walk_at "s")
local macro_rules | `(tactic| walk_at "s") => `(tactic| first | with_reducible refine w_callR ?_ | ((with_reducible refine' w_slL ?h_ix ?_); case h_ix => walk_at "sq") | ((with_reducible refine' w_lenSL ?h_ix ?_); case h_ix => walk_at "sq"))
def topS (i : Nat) : Stmt := PySem.Challenge.pw_filerights_k03_paths_taken_apart.main.body.getD i (.Pass ⟨0, 0, 0, 0⟩)
abbrev s_is_name : Stmt := topS 8
abbrev N_is_name : List Str := ["value", "sign"]
theorem sc_is_name : FnScope N_is_name ["value"] (defScope s_is_name) := ⟨rfl, rfl, rfl, by decide +kernel, rfl, by decide +kernel, by decide +kernel⟩
abbrev s_is_path : Stmt := topS 9
abbrev N_is_path : List Str := ["value", "name"]
theorem sc_is_path : FnScope N_is_path ["value"] (defScope s_is_path) := ⟨rfl, rfl, rfl, by decide +kernel, rfl, by decide +kernel, by decide +kernel⟩
abbrev s_need_path : Stmt := topS 10
abbrev N_need_path : List Str := ["path"]
theorem sc_need_path : FnScope N_need_path ["path"] (defScope s_need_path) := ⟨rfl, rfl, rfl, by decide +kernel, rfl, by decide +kernel, by decide +kernel⟩
abbrev s_parts_of : Stmt := topS 11
abbrev N_parts_of : List Str := ["path"]
theorem sc_parts_of : FnScope N_parts_of ["path"] (defScope s_parts_of) := ⟨rfl, rfl, rfl, by decide +kernel, rfl, by decide +kernel, by decide +kernel⟩
abbrev s_path_by : Stmt := topS 12
abbrev N_path_by : List Str := ["names"]
theorem sc_path_by : FnScope N_path_by ["names"] (defScope s_path_by) := ⟨rfl, rfl, rfl, by decide +kernel, rfl, by decide +kernel, by decide +kernel⟩
abbrev s_joined : Stmt := topS 13
abbrev N_joined : List Str := ["path", "names", "found", "name"]
theorem sc_joined : FnScope N_joined ["path", "names"] (defScope s_joined) := ⟨rfl, rfl, rfl, by decide +kernel, rfl, by decide +kernel, by decide +kernel⟩
abbrev s_above : Stmt := topS 14
abbrev N_above : List Str := ["path", "found", "last"]
theorem sc_above : FnScope N_above ["path"] (defScope s_above) := ⟨rfl, rfl, rfl, by decide +kernel, rfl, by decide +kernel, by decide +kernel⟩
abbrev s_is_below : Stmt := topS 15
abbrev N_is_below : List Str := ["path", "other", "names", "others"]
theorem sc_is_below : FnScope N_is_below ["path", "other"] (defScope s_is_below) := ⟨rfl, rfl, rfl, by decide +kernel, rfl, by decide +kernel, by decide +kernel⟩
abbrev s_law_cell : Stmt := topS 17
abbrev N_law_cell : List Str := ["_law_script", "_law_k"]
theorem sc_law_cell : FnScope N_law_cell ["_law_script", "_law_k"] (defScope s_law_cell) := ⟨rfl, rfl, rfl, by decide +kernel, rfl, by decide +kernel, by decide +kernel⟩
abbrev s_law_bag : Stmt := topS 18
abbrev N_law_bag : List Str := ["_law_number"]
theorem sc_law_bag : FnScope N_law_bag ["_law_number"] (defScope s_law_bag) := ⟨rfl, rfl, rfl, by decide +kernel, rfl, by decide +kernel, by decide +kernel⟩
abbrev s_law_take : Stmt := topS 19
abbrev N_law_take : List Str := ["_law_bag_here", "_law_count", "_law_digit", "_law_mixed"]
theorem sc_law_take : FnScope N_law_take ["_law_bag_here", "_law_count"] (defScope s_law_take) := ⟨rfl, rfl, rfl, by decide +kernel, rfl, by decide +kernel, by decide +kernel⟩
abbrev s_law_names : Stmt := topS 20
abbrev N_law_names : List Str := ["_law_bag_here", "_law_letters", "_law_stem", "_law_k", "_law_found", "_law_many", "_law_name"]
theorem sc_law_names : FnScope N_law_names ["_law_bag_here"] (defScope s_law_names) := ⟨rfl, rfl, rfl, by decide +kernel, rfl, by decide +kernel, by decide +kernel⟩
abbrev s_law_text : Stmt := topS 21
abbrev N_law_text : List Str := ["_law_names_here", "_law_found", "_law_name"]
theorem sc_law_text : FnScope N_law_text ["_law_names_here"] (defScope s_law_text) := ⟨rfl, rfl, rfl, by decide +kernel, rfl, by decide +kernel, by decide +kernel⟩
abbrev s_law_joined_right : Stmt := topS 22
abbrev N_law_joined_right : List Str := ["_law_names_here", "_law_at", "_law_path", "_law_rest"]
theorem sc_law_joined_right : FnScope N_law_joined_right ["_law_names_here", "_law_at"] (defScope s_law_joined_right) := ⟨rfl, rfl, rfl, by decide +kernel, rfl, by decide +kernel, by decide +kernel⟩
abbrev s_law_below : Stmt := topS 23
abbrev N_law_below : List Str := ["_law_names_here", "_law_others", "_law_k"]
theorem sc_law_below : FnScope N_law_below ["_law_names_here", "_law_others"] (defScope s_law_below) := ⟨rfl, rfl, rfl, by decide +kernel, rfl, by decide +kernel, by decide +kernel⟩
abbrev s_law : Stmt := topS 24
abbrev N_law : List Str := ["_law_script", "_law_k", "_law_bag_here", "_law_names_here", "_law_path", "_law_turn", "_law_found", "_law_at", "_law_expected", "_law_others", "_law_one", "_law_other", "_law_near"]
theorem sc_law : FnScope N_law ["_law_script"] (defScope s_law) := ⟨rfl, rfl, rfl, by decide +kernel, rfl, by decide +kernel, by decide +kernel⟩
abbrev D_is_name (K : PySem.W.Frag) (fd : FuncData) : Prop := FunD K "is_name" "is_name" (defArgs s_is_name) (defBody s_is_name) (defScope s_is_name) [] [] (He.ga K "is_name") fd
theorem bN_is_name {K : PySem.W.Frag} {fd : FuncData} (F : D_is_name K fd) : Binds K fd ["value"] [] := F.bindsN fun _ _ _ _ _ _ us hl => match us, hl with | [_], _ => rfl
abbrev D_is_path (K : PySem.W.Frag) (fd : FuncData) : Prop := FunD K "is_path" "is_path" (defArgs s_is_path) (defBody s_is_path) (defScope s_is_path) [] [] (He.ga K "is_path") fd
theorem bN_is_path {K : PySem.W.Frag} {fd : FuncData} (F : D_is_path K fd) : Binds K fd ["value"] [] := F.bindsN fun _ _ _ _ _ _ us hl => match us, hl with | [_], _ => rfl
abbrev D_need_path (K : PySem.W.Frag) (fd : FuncData) : Prop := FunD K "need_path" "need_path" (defArgs s_need_path) (defBody s_need_path) (defScope s_need_path) [] [] (He.ga K "need_path") fd
theorem bN_need_path {K : PySem.W.Frag} {fd : FuncData} (F : D_need_path K fd) : Binds K fd ["path"] [] := F.bindsN fun _ _ _ _ _ _ us hl => match us, hl with | [_], _ => rfl
abbrev D_parts_of (K : PySem.W.Frag) (fd : FuncData) : Prop := FunD K "parts_of" "parts_of" (defArgs s_parts_of) (defBody s_parts_of) (defScope s_parts_of) [] [] (He.ga K "parts_of") fd
theorem bN_parts_of {K : PySem.W.Frag} {fd : FuncData} (F : D_parts_of K fd) : Binds K fd ["path"] [] := F.bindsN fun _ _ _ _ _ _ us hl => match us, hl with | [_], _ => rfl
abbrev D_path_by (K : PySem.W.Frag) (fd : FuncData) : Prop := FunD K "path_by" "path_by" (defArgs s_path_by) (defBody s_path_by) (defScope s_path_by) [] [] (He.ga K "path_by") fd
theorem bN_path_by {K : PySem.W.Frag} {fd : FuncData} (F : D_path_by K fd) : Binds K fd ["names"] [] := F.bindsN fun _ _ _ _ _ _ us hl => match us, hl with | [_], _ => rfl
abbrev D_joined (K : PySem.W.Frag) (fd : FuncData) : Prop := FunD K "joined" "joined" (defArgs s_joined) (defBody s_joined) (defScope s_joined) [] [] (He.ga K "joined") fd
abbrev D_above (K : PySem.W.Frag) (fd : FuncData) : Prop := FunD K "above" "above" (defArgs s_above) (defBody s_above) (defScope s_above) [] [] (He.ga K "above") fd
theorem bN_above {K : PySem.W.Frag} {fd : FuncData} (F : D_above K fd) : Binds K fd ["path"] [] := F.bindsN fun _ _ _ _ _ _ us hl => match us, hl with | [_], _ => rfl
abbrev D_is_below (K : PySem.W.Frag) (fd : FuncData) : Prop := FunD K "is_below" "is_below" (defArgs s_is_below) (defBody s_is_below) (defScope s_is_below) [] [] (He.ga K "is_below") fd
theorem bN_is_below {K : PySem.W.Frag} {fd : FuncData} (F : D_is_below K fd) : Binds K fd ["path", "other"] [] := F.bindsN fun _ _ _ _ _ _ us hl => match us, hl with | [_, _], _ => rfl
abbrev D_law_cell (K : PySem.W.Frag) (fd : FuncData) : Prop := FunD K "_law_cell" "_law_cell" (defArgs s_law_cell) (defBody s_law_cell) (defScope s_law_cell) [] [] (He.ga K "_law_cell") fd
theorem bN_law_cell {K : PySem.W.Frag} {fd : FuncData} (F : D_law_cell K fd) : Binds K fd ["_law_script", "_law_k"] [] := F.bindsN fun _ _ _ _ _ _ us hl => match us, hl with | [_, _], _ => rfl
abbrev D_law_bag (K : PySem.W.Frag) (fd : FuncData) : Prop := FunD K "_law_bag" "_law_bag" (defArgs s_law_bag) (defBody s_law_bag) (defScope s_law_bag) [] [] (He.ga K "_law_bag") fd
theorem bN_law_bag {K : PySem.W.Frag} {fd : FuncData} (F : D_law_bag K fd) : Binds K fd ["_law_number"] [] := F.bindsN fun _ _ _ _ _ _ us hl => match us, hl with | [_], _ => rfl
abbrev D_law_take (K : PySem.W.Frag) (fd : FuncData) : Prop := FunD K "_law_take" "_law_take" (defArgs s_law_take) (defBody s_law_take) (defScope s_law_take) [] [] (He.ga K "_law_take") fd
theorem bN_law_take {K : PySem.W.Frag} {fd : FuncData} (F : D_law_take K fd) : Binds K fd ["_law_bag_here", "_law_count"] [] := F.bindsN fun _ _ _ _ _ _ us hl => match us, hl with | [_, _], _ => rfl
abbrev D_law_names (K : PySem.W.Frag) (fd : FuncData) : Prop := FunD K "_law_names" "_law_names" (defArgs s_law_names) (defBody s_law_names) (defScope s_law_names) [] [] (He.ga K "_law_names") fd
theorem bN_law_names {K : PySem.W.Frag} {fd : FuncData} (F : D_law_names K fd) : Binds K fd ["_law_bag_here"] [] := F.bindsN fun _ _ _ _ _ _ us hl => match us, hl with | [_], _ => rfl
abbrev D_law_text (K : PySem.W.Frag) (fd : FuncData) : Prop := FunD K "_law_text" "_law_text" (defArgs s_law_text) (defBody s_law_text) (defScope s_law_text) [] [] (He.ga K "_law_text") fd
theorem bN_law_text {K : PySem.W.Frag} {fd : FuncData} (F : D_law_text K fd) : Binds K fd ["_law_names_here"] [] := F.bindsN fun _ _ _ _ _ _ us hl => match us, hl with | [_], _ => rfl
abbrev D_law_joined_right (K : PySem.W.Frag) (fd : FuncData) : Prop := FunD K "_law_joined_right" "_law_joined_right" (defArgs s_law_joined_right) (defBody s_law_joined_right) (defScope s_law_joined_right) [] [] (He.ga K "_law_joined_right") fd
theorem bN_law_joined_right {K : PySem.W.Frag} {fd : FuncData} (F : D_law_joined_right K fd) : Binds K fd ["_law_names_here", "_law_at"] [] := F.bindsN fun _ _ _ _ _ _ us hl => match us, hl with | [_, _], _ => rfl
abbrev D_law_below (K : PySem.W.Frag) (fd : FuncData) : Prop := FunD K "_law_below" "_law_below" (defArgs s_law_below) (defBody s_law_below) (defScope s_law_below) [] [] (He.ga K "_law_below") fd
theorem bN_law_below {K : PySem.W.Frag} {fd : FuncData} (F : D_law_below K fd) : Binds K fd ["_law_names_here", "_law_others"] [] := F.bindsN fun _ _ _ _ _ _ us hl => match us, hl with | [_, _], _ => rfl
abbrev D_law (K : PySem.W.Frag) (fd : FuncData) : Prop := FunD K "law" "law" (defArgs s_law) (defBody s_law) (defScope s_law) [] [] (He.ga K "law") fd
theorem bN_law {K : PySem.W.Frag} {fd : FuncData} (F : D_law K fd) : Binds K fd ["_law_script"] [] := F.bindsN fun _ _ _ _ _ _ us hl => match us, hl with | [_], _ => rfl
structure Txt (K : PySem.W.Frag) (mg : Str → Option Value) : Prop where
  m_all : mg "all" = none
  m_bool : mg "bool" = none
  m_isinstance : mg "isinstance" = none
  m_len : mg "len" = none
  m_list : mg "list" = none
  m_max : mg "max" = none
  m_min : mg "min" = none
  m_range : mg "range" = none
  m_str : mg "str" = none
  m_is_name : mg "is_name" = some (.ref (He.ga K "is_name"))
  m_is_path : mg "is_path" = some (.ref (He.ga K "is_path"))
  m_need_path : mg "need_path" = some (.ref (He.ga K "need_path"))
  m_parts_of : mg "parts_of" = some (.ref (He.ga K "parts_of"))
  m_path_by : mg "path_by" = some (.ref (He.ga K "path_by"))
  m_joined : mg "joined" = some (.ref (He.ga K "joined"))
  m_above : mg "above" = some (.ref (He.ga K "above"))
  m_is_below : mg "is_below" = some (.ref (He.ga K "is_below"))
  m_law_cell : mg "_law_cell" = some (.ref (He.ga K "_law_cell"))
  m_law_bag : mg "_law_bag" = some (.ref (He.ga K "_law_bag"))
  m_law_take : mg "_law_take" = some (.ref (He.ga K "_law_take"))
  m_law_names : mg "_law_names" = some (.ref (He.ga K "_law_names"))
  m_law_text : mg "_law_text" = some (.ref (He.ga K "_law_text"))
  m_law_joined_right : mg "_law_joined_right" = some (.ref (He.ga K "_law_joined_right"))
  m_law_below : mg "_law_below" = some (.ref (He.ga K "_law_below"))
  m_law : mg "law" = some (.ref (He.ga K "law"))
  F_is_name : D_is_name K (fdOf K (He.ga K "is_name"))
  F_is_path : D_is_path K (fdOf K (He.ga K "is_path"))
  F_need_path : D_need_path K (fdOf K (He.ga K "need_path"))
  F_parts_of : D_parts_of K (fdOf K (He.ga K "parts_of"))
  F_path_by : D_path_by K (fdOf K (He.ga K "path_by"))
  F_joined : D_joined K (fdOf K (He.ga K "joined"))
  F_above : D_above K (fdOf K (He.ga K "above"))
  F_is_below : D_is_below K (fdOf K (He.ga K "is_below"))
  F_law_cell : D_law_cell K (fdOf K (He.ga K "_law_cell"))
  F_law_bag : D_law_bag K (fdOf K (He.ga K "_law_bag"))
  F_law_take : D_law_take K (fdOf K (He.ga K "_law_take"))
  F_law_names : D_law_names K (fdOf K (He.ga K "_law_names"))
  F_law_text : D_law_text K (fdOf K (He.ga K "_law_text"))
  F_law_joined_right : D_law_joined_right K (fdOf K (He.ga K "_law_joined_right"))
  F_law_below : D_law_below K (fdOf K (He.ga K "_law_below"))
  F_law : D_law K (fdOf K (He.ga K "law"))
  c_MOST_LETTERS : ∃ t, mg "MOST_LETTERS" = some (.int (8) t)
  c_LETTERS : ∃ t, mg "LETTERS" = some (.str "abcdefghijklmnopqrstuvwxyz" t)
  c_GROUND : ∃ t, mg "GROUND" = some (.str "/" t)
section
variable {P : Program} {w : World} {K : PySem.W.Frag} {mg : Str → Option Value} {base : Heap}
def spLaw (K : PySem.W.Frag) : Sp := fun vs H Q _ => ∃ (a : Addr) (ns : List Int), vs = [.ref a] ∧ SqL K H a (ns.map V.int) ∧ ns.length ≤ 63 ∧ ∀ H', Q (.bl true) H'
theorem ok_is_name (T : Txt K mg) : FnOk P w K mg base CX0 1 (He.ga K "is_name") (fdOf K (He.ga K "is_name")) ["value"] (spIsName K) := by
  refine T.F_is_name.ok sc_is_name (fun vs H Q E h => ?len) (fun cdv A outer s H vs Q E hr h => ?body)
  case len =>
    obtain ⟨v, rfl, _⟩ := h
    rfl
  case body =>
    obtain ⟨v, rfl, h⟩ := h
    obtain ⟨tk_LETTERS, c_LETTERS⟩ := T.c_LETTERS
    obtain ⟨tk_MOST_LETTERS, c_MOST_LETTERS⟩ := T.c_MOST_LETTERS
    have nd := sc_is_name.nd
    have hu := hu_of hr
    refine ⟨_, PSs.nox (pss_cons (ps_if (PW.pt (pw_or (pt_not (pt_val (pe_callB call_isi (by rfl) T.m_isinstance (by decide +kernel) (pa_cons (pv 0) (pa_cons (pe_bltn (v := .ty "str") (by rfl) T.m_str (by decide +kernel) rfl) pa_nil))))) (pw_or1 (pt_not (pt_chain op_le op_le pe_int (pe_callB call_len_str (by rfl) T.m_len PySem.boot_len (pa_cons (pv 0) pa_nil)) (pe_glob (v := .int (8)) rfl c_MOST_LETTERS ⟨_, rfl⟩))))))
        (pss_one (ps_ret (pe_bl)))
        (pss_nil))
      (pss_one (ps_ret (pe_callB (cr_all rfl) (by rfl) T.m_all (by decide +kernel) (pa_cons (pe_lc (own := [("sign", 1)]) (g := gName 1) rfl nd (pi_str (pv 0)) (blkOk_by (own := [("sign", 1)]) (N := N_is_name) (sc := defScope s_is_name) (by decide +kernel)) (fun _ _ _ _ _ => pg_name (i := 1) nd rfl (Or.inl rfl)) (fun _ _ _ _ _ => pts_nil) (fun _ _ _ _ _ => pe_cmpR op_in_sign (pv 1) (pe_glob (v := .str "abcdefghijklmnopqrstuvwxyz") rfl c_LETTERS ⟨_, rfl⟩) (by rfl))) pa_nil))))), ?_⟩
    walk_at "ss"
    rcases h with ⟨z, rfl, hz, q⟩ | ⟨⟨T, ty, hT⟩, q⟩
    · have hlen := len_tl z
      refine w_isi (.base (.str z)) (b := true) (by decide +kernel) ?_
      walk_at "ss"
      refine w_ite (fun e1 => ?_) (fun e1 => ?_)
      · walk_at "ss"
        refine w_iteN (fun e2 => ?_) (fun e2 => ?_)
        · walk_at "ss"
          have := q H (Keep.refl H)
          rw [show nameL (tl z) = false by unfold nameL; rw [decide_eq_false (by omega)]; rfl] at this
          exact this
        · walk_at "ss"
          intro p hp
          refine lc_text (fun i acc H' => Hold (Keep [] H H' ∧ acc = (((tl z).take i).map isLow).map V.bl)) ?_ ?_ ?_
          · exact ⟨Keep.new hp, rfl⟩
          · rintro i acc c H1 hc ⟨k1, ha1⟩ e3
            have hi := (List.getElem?_eq_some_iff.mp hc).1
            walk_at "ss"
            refine ⟨c, _, rfl, rfl, ?_⟩
            rw [low_in]
            refine ⟨acc, e3, lt_line ?_, _, upd_same, k1.updNew hp, ?_⟩
            · rw [ha1, List.length_map, List.length_map, List.length_take]
              omega
            · rw [ha1, take_snoc hc, List.map_append, List.map_append]
              rfl
          rintro acc H1 ⟨k1, ha1⟩ e3
          rw [List.take_length] at ha1
          subst ha1
          walk_at "ss"
          refine w_all e3 ?_
          rw [all_id]
          have := q _ k1
          rw [show nameL (tl z) = (tl z).all isLow by unfold nameL; rw [decide_eq_true (by omega)]; rfl] at this
          exact this
      · walk_at "ss"
        have := q H (Keep.refl H)
        rw [show nameL (tl z) = false by unfold nameL; rw [decide_eq_false (by omega)]; rfl] at this
        exact this
    · refine w_isiV ty hT ?_
      walk_at "ss"
      exact q
theorem ok_is_path (T : Txt K mg) : FnOk P w K mg base CX0 2 (He.ga K "is_path") (fdOf K (He.ga K "is_path")) ["value"] (spIsPath K) := by
  refine T.F_is_path.ok sc_is_path (fun vs H Q E h => ?len) (fun cdv A outer s H vs Q E hr h => ?body)
  case len =>
    obtain ⟨v, rfl, _⟩ := h
    rfl
  case body =>
    obtain ⟨v, rfl, h⟩ := h
    obtain ⟨tk_GROUND, c_GROUND⟩ := T.c_GROUND
    have nd := sc_is_path.nd
    have hu := hu_of hr
    refine ⟨_, PSs.nox (pss_cons (ps_if (PW.pt (pw_or (pt_not (pt_val (pe_callB call_isi (by rfl) T.m_isinstance (by decide +kernel) (pa_cons (pv 0) (pa_cons (pe_bltn (v := .ty "str") (by rfl) T.m_str (by decide +kernel) rfl) pa_nil))))) (pw_or1 (pt_not (pt_val (pe_m1 PySem.F.slot_str_startswith PySem.F.type_str_startswith mt_startswith (pv 0) (pe_glob (v := .str "/") rfl c_GROUND ⟨_, rfl⟩)))))))
        (pss_one (ps_ret (pe_bl)))
        (pss_nil))
      (pss_one (ps_ret (pe_or (pe_cmpR op_eq (pv 0) (pe_glob (v := .str "/") rfl c_GROUND ⟨_, rfl⟩) (nomark _)) (pe_one (pe_callB (cr_all rfl) (by rfl) T.m_all (by decide +kernel) (pa_cons (pe_lc (own := [("name", 1)]) (g := gName 1) rfl nd (pi_list (pe_split (pe_slice sl_str (pv 0) (po_some pe_int) po_none) (pe_glob (v := .str "/") rfl c_GROUND ⟨_, rfl⟩))) (blkOk_by (own := [("name", 1)]) (N := N_is_path) (sc := defScope s_is_path) (by decide +kernel)) (fun _ _ _ _ _ => pg_name (i := 1) nd rfl (Or.inl rfl)) (fun _ _ _ _ _ => pts_nil) (fun _ _ _ _ _ => pe_call (ok_is_name T) (hr.mono (by decide)) (by rfl) T.m_is_name T.F_is_name.kp (bN_is_name T.F_is_name) .nil pass0 (pa_cons (pv 1) pa_nil))) pa_nil))))))), ?_⟩
    walk_at "ss"
    rcases h with ⟨z, rfl, hz, q⟩ | ⟨⟨T, ty, hT⟩, q⟩
    · have hlen := len_tl z
      refine w_isi (.base (.str z)) (b := true) (by decide +kernel) ?_
      walk_at "ss"
      refine ⟨z, _, rfl, rfl, ?_⟩
      rw [starts_slash]
      cases hsl : slash (tl z) with
      | false =>
        walk_at "ss"
        have := q H (Keep.refl H)
        rw [path_no hsl] at this
        exact this
      | true =>
        obtain ⟨r, hr⟩ := slash_cons hsl
        have ez : z = mkS (47 :: r) := by rw [← hr, mkS_tl]
        subst ez
        rw [hr] at hlen
        have hrl : r.length + 1 ≤ 1000000 := hz
        walk_at "ss"
        refine w_itb (fun e => ?_) (fun e => ?_)
        · have e : (47 :: r) = [47] := mkS_inj (V.str.inj (of_decide_eq_true e))
          have : r = [] := by simpa using e
          subst this
          exact q H (Keep.refl H)
        have hne : r.isEmpty = false := by
          cases r with
          | nil => exact absurd (of_decide_eq_false e) (fun z => z rfl)
          | cons c r => rfl
        walk_at "ss"
        rw [cutS_from1]
        refine ⟨mkS r, mkS [47], rfl, rfl, rfl, by rw [sizeLine_eq]; show r.length + 2 ≤ _; omega, fun p hp => ?_⟩
        rw [split_cut1 _ (by decide)]
        have hcl := cut1_len 47 r []
        walk_at "ss"
        refine ⟨⟨_, SqL.of upd_same⟩, fun p2 hp2 => ?_⟩
        have hwl : ∀ x ∈ cut1 47 [] (tl (mkS r)), x.length ≤ r.length := fun x hx => by
          have := cut1_part 47 r [] x hx
          simpa using this
        refine lc_lst (xs := ((cut1 47 [] (tl (mkS r))).map mkS).map V.str) (fun i acc H' => Hold (Keep [] (upd H p (.lst (((cut1 47 [] (tl (mkS r))).map mkS).map V.str))) H' ∧ acc = (((cut1 47 [] (tl (mkS r))).take i).map nameL).map V.bl)) ?_ ?_ ?_ ?_
        · exact ⟨Keep.new hp2, rfl⟩
        · rintro i acc H1 _ ⟨k1, _⟩ _
          exact SqL.of (k1.get upd_same (by simp))
        · rintro i acc x H1 hx ⟨k1, ha1⟩ e1
          rw [List.map_map, List.getElem?_map] at hx
          obtain ⟨w, hw, rfl⟩ := Option.map_eq_some_iff.mp hx
          have hi := (List.getElem?_eq_some_iff.mp hw).1
          walk_at "ss"
          refine isName_go (z := mkS w) (by have := hwl w (List.mem_of_getElem? hw); rw [mkS_len]; omega) fun H2 k2 => ?_
          refine ⟨acc, k2.get e1 (by simp), lt_line ?_, _, upd_same, (k1.trans k2).updNew hp2, ?_⟩
          · rw [ha1, List.length_map, List.length_map, List.length_take]
            have : (cut1 47 [] (tl (mkS r))).length ≤ r.length + 1 := hcl
            omega
          · rw [ha1, take_snoc hw, List.map_append, List.map_append]
            rfl
        rintro acc H1 ⟨k1, ha1⟩ e1
        rw [List.length_map, List.length_map, List.take_length] at ha1
        subst ha1
        walk_at "ss"
        refine w_all e1 ?_
        rw [all_id]
        have := q _ ((Keep.new hp).trans k1)
        rw [show pathL (tl (mkS (47 :: r))) = (cut1 47 [] (tl (mkS r))).all nameL by show (r.isEmpty || _) = _; rw [hne]; rfl] at this
        exact this
    · refine w_isiV ty hT ?_
      walk_at "ss"
      exact q
theorem ok_need_path (T : Txt K mg) : FnOk P w K mg base CX0 3 (He.ga K "need_path") (fdOf K (He.ga K "need_path")) ["path"] (spNeedPath) := by
  refine T.F_need_path.ok sc_need_path (fun vs H Q E h => ?len) (fun cdv A outer s H vs Q E hr h => ?body)
  case len =>
    obtain ⟨ns, rfl, _⟩ := h
    rfl
  case body =>
    obtain ⟨ns, rfl, hN, q⟩ := h
    have nd := sc_need_path.nd
    have hu := hu_of hr
    refine ⟨_, PSs.nox (pss_one (ps_if (pt_not (pt_val (pe_call (ok_is_path T) (hr.mono (by decide)) (by rfl) T.m_is_path T.F_is_path.kp (bN_is_path T.F_is_path) .nil pass0 (pa_cons (pv 0) pa_nil))))
        (pss_one (ps_never))
        (pss_nil))), ?_⟩
    walk_at "ss"
    refine isPath_go (by have := hN.len; omega) fun H1 k1 => ?_
    rw [hN.path]
    walk_at "ss"
    exact q _ k1
theorem ok_parts_of (T : Txt K mg) : FnOk P w K mg base CX0 4 (He.ga K "parts_of") (fdOf K (He.ga K "parts_of")) ["path"] (spParts) := by
  refine T.F_parts_of.ok sc_parts_of (fun vs H Q E h => ?len) (fun cdv A outer s H vs Q E hr h => ?body)
  case len =>
    obtain ⟨ns, rfl, _⟩ := h
    rfl
  case body =>
    obtain ⟨ns, rfl, hN, q⟩ := h
    obtain ⟨tk_GROUND, c_GROUND⟩ := T.c_GROUND
    have nd := sc_parts_of.nd
    have hu := hu_of hr
    refine ⟨_, PSs.nox (pss_cons (ps_expr (pe_call (ok_need_path T) (hr.mono (by decide)) (by rfl) T.m_need_path T.F_need_path.kp (bN_need_path T.F_need_path) .nil pass0 (pa_cons (pv 0) pa_nil)))
      (pss_cons (ps_if (pt_cmpR op_eq (pv 0) (pe_glob (v := .str "/") rfl c_GROUND ⟨_, rfl⟩) (nomark _))
        (pss_one (ps_ret (pe_lst pa_nil)))
        (pss_nil))
      (pss_one (ps_ret (pe_split (pe_slice sl_str (pv 0) (po_some pe_int) po_none) (pe_glob (v := .str "/") rfl c_GROUND ⟨_, rfl⟩)))))), ?_⟩
    walk_at "ss"
    refine ⟨ns, rfl, hN, fun H1 k1 => ?_⟩
    walk_at "ss"
    refine w_iteS (fun e => ?_) (fun e => ?_)
    · have e : ns = [] := pth_inj hN .nil e
      subst e
      walk_at "ss"
      intro p hp
      exact q p _ (k1.free hp) (k1.trans (Keep.new hp)) upd_same
    · have hne : ns ≠ [] := fun z => e (by rw [z]; rfl)
      have hl := hN.len
      have hl2 : (TL.joinL [47] ns).length + 1 ≤ 9001 := hl
      walk_at "ss"
      rw [show pth ns = mkS (47 :: TL.joinL [47] ns) from rfl, cutS_from1]
      refine ⟨mkS (TL.joinL [47] ns), mkS [47], rfl, rfl, rfl, by rw [sizeLine_eq]; show (TL.joinL [47] ns).length + 2 ≤ _; omega, fun p hp => ?_⟩
      rw [split_cut1 _ (by decide), tl_mkS, cut1_join 47 ns hne hN.nosep]
      walk_at "ss"
      exact q p _ (k1.free hp) (k1.trans (Keep.new hp)) upd_same
theorem ok_path_by (T : Txt K mg) : FnOk P w K mg base CX0 1 (He.ga K "path_by") (fdOf K (He.ga K "path_by")) ["names"] (spPathBy) := by
  refine T.F_path_by.ok sc_path_by (fun vs H Q E h => ?len) (fun cdv A outer s H vs Q E hr h => ?body)
  case len =>
    obtain ⟨a, ns, rfl, _⟩ := h
    rfl
  case body =>
    obtain ⟨a, ns, rfl, hN, e, q⟩ := h
    obtain ⟨tk_GROUND, c_GROUND⟩ := T.c_GROUND
    have nd := sc_path_by.nd
    have hu := hu_of hr
    refine ⟨_, PSs.nox (pss_one (ps_ret (pe_op op_addT (pe_glob (v := .str "/") rfl c_GROUND ⟨_, rfl⟩) (pe_join (pe_glob (v := .str "/") rfl c_GROUND ⟨_, rfl⟩) (pv 0))))), ?_⟩
    walk_at "ss"
    refine ⟨_, a, ns.map mkS, rfl, rfl, .inl (SqL.of e), ?_, ?_⟩
    · have := hN.sum
      show _ + _ * 1 ≤ _
      omega
    have hl := hN.len
    have e2 : Txt.join "/" (ns.map mkS) = mkS (TL.joinL [47] ns) := mkS_join ns
    rw [e2]
    have hl2 : (TL.joinL [47] ns).length + 1 ≤ 9001 := hl
    show rAddT (.str "/") (.str (mkS (TL.joinL [47] ns))) H Q
    refine w_addT (by rw [mkS_len]; show 1 + _ ≤ _; omega) ?_
    rw [show ("/" : Str) = mkS [47] from rfl, mkS_app]
    exact q
theorem ok_joined (T : Txt K mg) : FnR P w K mg base CX0 5 (He.ga K "joined") (spStar 1 (spJoined)) := by
  refine T.F_joined.okStar (ps := ["path"]) (pv := "names") sc_joined (fun _ _ _ _ _ _ us rest hl => match us, rest, hl with | [_], [], _ => rfl | [_], _ :: _, _ => rfl) (fun cdv A outer s H vs Q E hr h => ?body)
  case body =>
    obtain ⟨ns, ms, p, rfl, hN, hp, q⟩ := h
    have nd := sc_joined.nd
    have hu := hu_of hr
    refine ⟨_, PSs.nox (pss_cons (ps_set (i := 2) nd rfl (Or.inl rfl) (pe_call (ok_parts_of T) (hr.mono (by decide)) (by rfl) T.m_parts_of T.F_parts_of.kp (bN_parts_of T.F_parts_of) .nil pass0 (pa_cons (pv 0) pa_nil)))
      (pss_cons (ps_for PassesOwn.never rfl (pi_tup (pv 1)) (pg_name (i := 3) nd rfl (Or.inl rfl))
        (pss_cons (ps_if (pt_not (pt_val (pe_call (ok_is_name T) (hr.mono (by decide)) (by rfl) T.m_is_name T.F_is_name.kp (bN_is_name T.F_is_name) .nil pass0 (pa_cons (pv 3) pa_nil))))
          (pss_one (ps_never))
          (pss_nil))
        (pss_one (ps_expr (pe_bm PySem.F.plainAttrs_list PySem.F.slot_list_append PySem.F.type_list_append mt_append (pv 2) (pa_cons (pv 3) pa_nil))))))
      (pss_one (ps_ret (pe_call (ok_path_by T) (hr.mono (by decide)) (by rfl) T.m_path_by T.F_path_by.kp (bN_path_by T.F_path_by) .nil pass0 (pa_cons (pv 2) pa_nil)))))), ?_⟩
    have hNn : Nms ns := by
      have := hN.take ns.length
      rwa [List.take_left] at this
    have hL := hN.2
    rw [List.length_append] at hL
    walk_at "ss"
    refine ⟨ns, rfl, hNn, fun p1 H1 n1 k1 e1 => ?_⟩
    walk_at "ss"
    refine ⟨⟨_, SqT.of (k1.get hp (by simp))⟩, ?_⟩
    have ne : p ≠ p1 := ne_of_none hp n1
    refine for_tp (xs := nmV ms) (fun i σ' H' => Hold (∃ v, σ' = ((start N_joined [.str (pth ns), .ref p]).set 2 (some (.ref p1))).set 3 v ∧ Keep [] H H' ∧ H' p1 = some (.lst (nmV (ns ++ ms.take i))))) ?_ ?_ ?_ ?_
    · exact ⟨_, rfl, k1, by simpa using e1⟩
    · rintro i σ' H' _ ⟨v, rfl, k', e'⟩
      exact SqT.of (k'.get hp (by simp))
    · rintro i x σ' H' hx ⟨v, rfl, k', e'⟩
      unfold nmV at hx
      rw [List.map_map, List.getElem?_map] at hx
      obtain ⟨w, hw, rfl⟩ := Option.map_eq_some_iff.mp hx
      have hwm : w ∈ ns ++ ms := List.mem_append.mpr (.inr (List.mem_of_getElem? hw))
      have hwl := name_len (hN.1 w hwm)
      walk_at "ss"
      refine isName_go (z := mkS w) (by rw [mkS_len]; omega) fun H2 k2 => ?_
      rw [show nameL (tl (mkS w)) = true from hN.1 w hwm]
      walk_at "ss"
      refine w_tyL (k2.get e' (by simp)) ?_
      walk_at "ss"
      refine w_append (k2.get e' (by simp)) ?_ ?_
      · rw [nmV_len, List.length_append, List.length_take]
        omega
      walk_at "ss"
      refine ⟨_, rfl, (k'.trans k2).updNew n1, ?_⟩
      rw [upd_same, take_snoc hw, ← List.append_assoc, nmV_app (ns ++ ms.take i)]
      rfl
    rintro σ' H' ⟨v, rfl, k', e'⟩
    rw [nmV_len, List.take_length] at e'
    walk_at "ss"
    exact ⟨p1, ns ++ ms, rfl, hN, e', q _ k'⟩
theorem ok_above (T : Txt K mg) : FnOk P w K mg base CX0 5 (He.ga K "above") (fdOf K (He.ga K "above")) ["path"] (spAbove) := by
  refine T.F_above.ok sc_above (fun vs H Q E h => ?len) (fun cdv A outer s H vs Q E hr h => ?body)
  case len =>
    obtain ⟨ns, rfl, _⟩ := h
    rfl
  case body =>
    obtain ⟨ns, rfl, hN, q⟩ := h
    have nd := sc_above.nd
    have hu := hu_of hr
    refine ⟨_, PSs.nox (pss_cons (ps_asg (pe_orT (pe_call (ok_parts_of T) (hr.mono (by decide)) (by rfl) T.m_parts_of T.F_parts_of.kp (bN_parts_of T.F_parts_of) .nil pass0 (pa_cons (pv 0) pa_nil)) (pe_one (pe_lst (pa_cons pe_non pa_nil)))) (pg_star (n := 2) (i := 0) rfl (pgs_starred (pg_name (i := 1) nd rfl (Or.inl rfl)) (pgs_cons (pg_name (i := 2) nd rfl (Or.inl rfl)) pgs_nil))))
      (pss_cons (ps_if (pt_cmpR op_isN (pv 2) pe_non (nomark _))
        (pss_one (ps_ret (pe_non)))
        (pss_nil))
      (pss_one (ps_ret (pe_call (ok_path_by T) (hr.mono (by decide)) (by rfl) T.m_path_by T.F_path_by.kp (bN_path_by T.F_path_by) .nil pass0 (pa_cons (pv 1) pa_nil)))))), ?_⟩
    have hL := hN.2
    walk_at "ss"
    refine ⟨ns, rfl, hN, fun p1 H1 n1 k1 e1 => ?_⟩
    by_cases hn : ns = []
    · subst hn
      refine ⟨false, .inl ⟨_, SqL.of e1, rfl⟩, ?_⟩
      walk_at "ss"
      intro p2 hp2
      refine w_gstar (SqL.of upd_same) (by decide) (by decide) fun p3 hp3 => ?_
      show gCons _ _ [.ref p3, .non] _ _ _
      walk_at "ss"
      exact q _ ((k1.trans (Keep.new hp2)).trans (Keep.new hp3))
    · have hl : 0 < ns.length := List.length_pos_iff.mpr hn
      refine ⟨true, .inl ⟨_, SqL.of e1, ?_⟩, ?_⟩
      · cases ns with
        | nil => exact absurd rfl hn
        | cons n r => rfl
      walk_at "ss"
      have hd : ns = ns.dropLast ++ [ns.getLast hn] := (List.dropLast_concat_getLast hn).symm
      refine w_gstar (SqL.of e1) (by rw [nmV_len]; omega) (by rw [nmV_len]; omega) fun p3 hp3 => ?_
      have hdl : ns.dropLast.length = ns.length - 1 := List.length_dropLast
      have e3 : ns.length + 1 - 2 = ns.length - 1 := by omega
      rw [List.take_zero, List.drop_zero, nmV_len, e3, nmV_drop, nmV_take, ← List.dropLast_eq_take]
      have e4 : ns.drop (ns.length - 1) = [ns.getLast hn] := by
        conv => lhs; rw [hd]
        rw [List.length_append, hdl]
        simp only [List.length_cons, List.length_nil]
        rw [show ns.length - 1 + (0 + 1) - 1 = ns.dropLast.length by omega, List.drop_left]
      rw [e4]
      show gCons _ _ [.ref p3, .str (mkS (ns.getLast hn))] _ _ _
      walk_at "ss"
      refine w_ite (fun e => by cases e) (fun _ => ?_)
      walk_at "ss"
      refine ⟨p3, ns.dropLast, rfl, ?_, upd_same, ?_⟩
      · rw [List.dropLast_eq_take]
        exact hN.take _
      unfold aboveV at q
      rw [if_neg hn] at q
      exact q _ (k1.trans (Keep.new hp3))
theorem ok_is_below (T : Txt K mg) : FnOk P w K mg base CX0 5 (He.ga K "is_below") (fdOf K (He.ga K "is_below")) ["path", "other"] (spBelow) := by
  refine T.F_is_below.ok sc_is_below (fun vs H Q E h => ?len) (fun cdv A outer s H vs Q E hr h => ?body)
  case len =>
    obtain ⟨ns, ms, rfl, _⟩ := h
    rfl
  case body =>
    obtain ⟨ns, ms, rfl, hN, hM, q⟩ := h
    have nd := sc_is_below.nd
    have hu := hu_of hr
    refine ⟨_, PSs.nox (pss_cons (ps_set (i := 2) nd rfl (Or.inl rfl) (pe_call (ok_parts_of T) (hr.mono (by decide)) (by rfl) T.m_parts_of T.F_parts_of.kp (bN_parts_of T.F_parts_of) .nil pass0 (pa_cons (pv 0) pa_nil)))
      (pss_cons (ps_set (i := 3) nd rfl (Or.inl rfl) (pe_call (ok_parts_of T) (hr.mono (by decide)) (by rfl) T.m_parts_of T.F_parts_of.kp (bN_parts_of T.F_parts_of) .nil pass0 (pa_cons (pv 1) pa_nil)))
      (pss_one (ps_ret (pe_and (pe_cmpR op_gt (pe_callB call_len_seq (by rfl) T.m_len PySem.boot_len (pa_cons (pv 2) pa_nil)) (pe_callB call_len_seq (by rfl) T.m_len PySem.boot_len (pa_cons (pv 3) pa_nil)) (nomark _)) (pe_one (pe_cmpR (op_eqD hr.units) (pe_slice sl_list (pv 2) po_none (po_some (pe_callB call_len_seq (by rfl) T.m_len PySem.boot_len (pa_cons (pv 3) pa_nil)))) (pv 3) (nomark _)))))))), ?_⟩
    walk_at "ss"
    refine ⟨ns, rfl, hN, fun p1 H1 n1 k1 e1 => ?_⟩
    walk_at "ss"
    refine ⟨ms, rfl, hM, fun p2 H2 n2 k2 e2 => ?_⟩
    have e1' := k2.get e1 (by simp)
    have K2 := k1.trans k2
    walk_at "ss"
    refine ⟨p1, _, rfl, .inl (SqL.of e1'), ?_⟩
    walk_at "ss"
    refine ⟨p2, _, rfl, .inl (SqL.of e2), ?_⟩
    rw [nmV_len, nmV_len]
    walk_at "ss"
    refine w_ite (fun h1 => ?_) (fun h1 => ?_)
    · walk_at "ss"
      refine ⟨p2, _, rfl, .inl (SqL.of e2), ?_⟩
      rw [nmV_len]
      walk_at "ss"
      refine w_slL (SqL.of e1') fun p3 hp3 => ?_
      rw [cutV_to, nmV_take]
      walk_at "ss"
      refine w_eqD (dp_lst upd_same) (dp_lst (stay e2 hp3)) (hN.take _).shaped hM.shaped ?_
      rw [eqv_strs]
      rw [show below ns ms = decide (ns.take ms.length = ms) by unfold below; rw [decide_eq_true (by omega)]; rfl] at q
      exact q _ (K2.trans (Keep.new hp3))
    · walk_at "ss"
      have := q _ K2
      rw [show below ns ms = false by unfold below; rw [decide_eq_false (by omega)]; rfl] at this
      exact this
end
section
variable {P : Program} {w : World} {K : PySem.W.Frag} {mg : Str → Option Value} {base : Heap}
theorem ok_law_take (T : Txt K mg) : FnOk P w K mg base CX0 1 (He.ga K "_law_take") (fdOf K (He.ga K "_law_take")) ["_law_bag_here", "_law_count"] (spTake) := by
  refine T.F_law_take.ok sc_law_take (fun vs H Q E h => ?len) (fun cdv A outer s H vs Q E hr h => ?body)
  case len =>
    obtain ⟨b, m, n, rfl, _⟩ := h
    rfl
  case body =>
    obtain ⟨b, m, n, rfl, hm0, hm1, ⟨x, y, z, hb, hx, hy0, hy1, hz0, hz1⟩, hn, q⟩ := h
    have nd := sc_law_take.nd
    have hu := hu_of hr
    refine ⟨_, PSs.nox (pss_cons (ps_if (pt_cmpR op_gt (pe_ix ix_list (pv 0) pe_int (fun _ _ => rfl)) pe_int (nomark _))
        (pss_cons (ps_set (i := 2) nd rfl (Or.inl rfl) (pe_op op_mod (pe_ix ix_list (pv 0) pe_int (fun _ _ => rfl)) (pv 1)))
        (pss_cons (ps_asg (pe_op op_fdiv (pe_ix ix_list (pv 0) pe_int (fun _ _ => rfl)) (pv 1)) (pg_sub (pv 0) pe_int set_list))
        (pss_one (ps_ret (pv 2)))))
        (pss_nil))
      (pss_cons (ps_asg (pe_op op_add (pe_ix ix_list (pv 0) pe_int (fun _ _ => rfl)) pe_int) (pg_sub (pv 0) pe_int set_list))
      (pss_cons (ps_set (i := 3) nd rfl (Or.inl rfl) (pe_op op_mod (pe_op op_pow (pe_op op_add (pe_op op_add (pe_ix ix_list (pv 0) pe_int (fun _ _ => rfl)) (pe_op op_mul pe_int (pe_ix ix_list (pv 0) pe_int (fun _ _ => rfl)))) pe_int) pe_int) pe_int))
      (pss_cons (ps_set (i := 3) nd rfl (Or.inl rfl) (pe_op op_mod (pe_op op_pow (pe_op op_add (pv 3) (pe_op op_mul pe_int (pe_ix ix_list (pv 0) pe_int (fun _ _ => rfl)))) pe_int) pe_int))
      (pss_one (ps_ret (pe_op op_mod (pe_op op_fdiv (pv 3) pe_int) (pv 1)))))))), ?_⟩
    walk_at "ss"
    refine w_ite (fun hpos => ?_) (fun hpos => ?_)
    · walk_at "ss"
      exact q _ _ (Int.emod_nonneg _ (by omega)) (Int.emod_lt_of_pos _ hm0) (Keep.set (by simp)) ⟨x / m, y, z, upd_same, Int.ediv_nonneg hx (by omega), hy0, hy1, hz0, by omega⟩
    · walk_at "ss"
      exact q _ _ (Int.emod_nonneg _ (by omega)) (Int.emod_lt_of_pos _ hm0) (Keep.set (by simp)) ⟨x, y, z + 1, upd_same, hx, hy0, hy1, by omega, by omega⟩
theorem ok_law_cell (T : Txt K mg) : FnOk P w K mg base CX0 1 (He.ga K "_law_cell") (fdOf K (He.ga K "_law_cell")) ["_law_script", "_law_k"] (Fr.spCell K) := by
  refine T.F_law_cell.ok sc_law_cell (fun vs H Q E h => ?len) (fun cdv A outer s H vs Q E hr h => ?body)
  case len =>
    obtain ⟨a, ns, k, rfl, _⟩ := h
    rfl
  case body =>
    obtain ⟨a, ns, k, rfl, hS, hk, q⟩ := h
    have nd := sc_law_cell.nd
    have hu := hu_of hr
    refine ⟨_, PSs.nox (pss_cons (ps_if (pt_cmpR op_lt (pv 1) (pe_callB call_len_seq (by rfl) T.m_len PySem.boot_len (pa_cons (pv 0) pa_nil)) (nomark _))
        (pss_one (ps_ret (pe_ix ix_list (pv 0) (pv 1) (fun _ _ => rfl))))
        (pss_nil))
      (pss_one (ps_ret (pe_op op_add (pe_op op_mul pe_int (pv 1)) pe_int)))), ?_⟩
    walk_at "ss"
    refine ⟨a, ns.map V.int, rfl, .inl hS, ?_⟩
    walk_at "ss"
    refine w_ite (fun hlt => ?_) (fun hlt => ?_)
    · rw [len_ints] at hlt
      walk_at "ss"
      exact w_ixLS hS (at_ints (by omega)) (q _)
    · walk_at "ss"
      exact q _
theorem ok_law_bag (T : Txt K mg) : FnOk P w K mg base CX0 1 (He.ga K "_law_bag") (fdOf K (He.ga K "_law_bag")) ["_law_number"] (spBag) := by
  refine T.F_law_bag.ok sc_law_bag (fun vs H Q E h => ?len) (fun cdv A outer s H vs Q E hr h => ?body)
  case len =>
    obtain ⟨n, rfl, _⟩ := h
    rfl
  case body =>
    obtain ⟨n, rfl, q⟩ := h
    have nd := sc_law_bag.nd
    have hu := hu_of hr
    refine ⟨_, PSs.nox (pss_one (ps_ret (pe_lst (pa_cons (pe_callB (call_max2 rfl) (by rfl) T.m_max (by decide +kernel) (pa_cons pe_int (pa_cons (pe_op op_sub (pv 0) (pe_op op_pow pe_int pe_int)) pa_nil))) (pa_cons (pe_op op_mod (pv 0) pe_int) (pa_cons pe_int pa_nil)))))), ?_⟩
    walk_at "ss"
    refine fun p hp => q p _ hp ?_
    refine ⟨_, _, 0, upd_same, ?_, Int.emod_nonneg _ (by decide), Int.lt_of_lt_of_le (Int.emod_lt_of_pos _ (by decide)) (by decide), by decide, by decide⟩
    split <;> omega
theorem cutS_to (l : List Nat) (k : Nat) : cutS (mkS l) none (some (k : Int)) = mkS (l.take k) := by
  refine TL.ext_tl ?_
  show (l.drop (HT.sIx (mkS l).length 0 none)).take (HT.sIx (mkS l).length (mkS l).length (some (k : Int)) - HT.sIx (mkS l).length 0 none) = l.take k
  rw [HT.sIx_none, HT.sIx_nat, List.drop_zero, Nat.sub_zero, mkS_len]
  by_cases h : k ≤ l.length
  · rw [Nat.min_eq_left h]
  · rw [Nat.min_eq_right (by omega), List.take_of_length_le (Nat.le_refl _), List.take_of_length_le (by omega)]
theorem name_of {l : List Nat} (h : ∀ c ∈ l, isLow c = true) (h1 : 1 ≤ l.length) (h2 : l.length ≤ 8) : nameL l = true := by
  unfold nameL
  rw [decide_eq_true ⟨h1, h2⟩, Bool.true_and, List.all_eq_true]
  exact h
def isNm (v : V) : Prop := ∃ w, v = .str (mkS w) ∧ nameL w = true
def spNames : Sp := fun vs H Q _ => ∃ (b : Addr) (n : Nat), vs = [.ref b] ∧ Bag H b n ∧ n ≤ 1000000 ∧
  ∀ p H' ns, H p = none → Keep [b] H H' → Bag H' b (n + 100) → H' p = some (.lst (nmV ns)) → Nms ns → ns.length ≤ 20 → Q (.ref p) H'
theorem ok_law_names (T : Txt K mg) : FnOk P w K mg base CX0 2 (He.ga K "_law_names") (fdOf K (He.ga K "_law_names")) ["_law_bag_here"] (spNames) := by
  refine T.F_law_names.ok sc_law_names (fun vs H Q E h => ?len) (fun cdv A outer s H vs Q E hr h => ?body)
  case len =>
    obtain ⟨b, n, rfl, _⟩ := h
    rfl
  case body =>
    obtain ⟨b, n, rfl, hB, hn, q⟩ := h
    have nd := sc_law_names.nd
    have hu := hu_of hr
    refine ⟨_, PSs.nox (pss_cons (ps_set (i := 1) nd rfl (Or.inr rfl) (pe_str))
      (pss_cons (ps_set (i := 2) nd rfl (Or.inl rfl) (pe_join pe_str (pe_lc (own := [("_law_k", 3)]) (g := gName 3) rfl nd (pi_range1 rfl T.m_range (pa_cons pe_int pa_nil)) (blkOk_by (own := [("_law_k", 3)]) (N := N_law_names) (sc := defScope s_law_names) (by decide +kernel)) (fun _ _ _ _ _ => pg_name (i := 3) nd rfl (Or.inl rfl)) (fun _ _ _ _ _ => pts_nil) (fun _ _ _ _ _ => pe_ix ix_str (pv 1) (pe_call (ok_law_take T) (hr.mono (by decide)) (by rfl) T.m_law_take T.F_law_take.kp (bN_law_take T.F_law_take) .nil pass0 (pa_cons (pv 0) (pa_cons pe_int pa_nil))) (fun _ _ => rfl)))))
      (pss_cons (ps_set (i := 4) nd rfl (Or.inl rfl) (pe_lst pa_nil))
      (pss_cons (ps_for PassesOwn.never rfl (pi_range1 rfl T.m_range (pa_cons (pe_ix ix_list (pe_lst (pa_cons (pe_call (ok_law_take T) (hr.mono (by decide)) (by rfl) T.m_law_take T.F_law_take.kp (bN_law_take T.F_law_take) .nil pass0 (pa_cons (pv 0) (pa_cons pe_int pa_nil))) (pa_cons (pe_call (ok_law_take T) (hr.mono (by decide)) (by rfl) T.m_law_take T.F_law_take.kp (bN_law_take T.F_law_take) .nil pass0 (pa_cons (pv 0) (pa_cons pe_int pa_nil))) pa_nil))) (pe_call (ok_law_take T) (hr.mono (by decide)) (by rfl) T.m_law_take T.F_law_take.kp (bN_law_take T.F_law_take) .nil pass0 (pa_cons (pv 0) (pa_cons pe_int pa_nil))) (fun _ _ => rfl)) pa_nil)) (pg_name (i := 3) nd rfl (Or.inl rfl))
        (pss_cons (ps_set (i := 5) nd rfl (Or.inl rfl) (pe_call (ok_law_take T) (hr.mono (by decide)) (by rfl) T.m_law_take T.F_law_take.kp (bN_law_take T.F_law_take) .nil pass0 (pa_cons (pv 0) (pa_cons pe_int pa_nil))))
        (pss_one (ps_expr (pe_bm PySem.F.plainAttrs_list PySem.F.slot_list_append PySem.F.type_list_append mt_append (pv 4) (pa_cons (pe_ix ix_list (pe_lst (pa_cons (pe_op op_addT (pe_slice sl_str (pv 2) po_none (po_some (pv 5))) (pe_ix ix_str (pv 1) (pe_call (ok_law_take T) (hr.mono (by decide)) (by rfl) T.m_law_take T.F_law_take.kp (bN_law_take T.F_law_take) .nil pass0 (pa_cons (pv 0) (pa_cons pe_int pa_nil))) (fun _ _ => rfl))) (pa_cons (pe_slice sl_str (pv 2) po_none (po_some (pe_op op_add pe_int (pv 5)))) (pa_cons pe_str (pa_cons pe_str pa_nil))))) (pe_call (ok_law_take T) (hr.mono (by decide)) (by rfl) T.m_law_take T.F_law_take.kp (bN_law_take T.F_law_take) .nil pass0 (pa_cons (pv 0) (pa_cons pe_int pa_nil))) (fun _ _ => rfl)) pa_nil))))))
      (pss_one (ps_ret (pe_lc (own := [("_law_name", 6)]) (g := gName 6) rfl nd (pi_list (pv 4)) (blkOk_by (own := [("_law_name", 6)]) (N := N_law_names) (sc := defScope s_law_names) (by decide +kernel)) (fun _ _ _ _ _ => pg_name (i := 6) nd rfl (Or.inl rfl)) (fun _ _ _ _ _ => pts_nil) (fun _ _ _ _ _ => pe_slice sl_str (pv 6) po_none (po_some pe_int))))))))), ?_⟩
    walk_at "ss"
    refine ⟨by decide, by decide, fun p hp => ?_⟩
    have pb : p ∉ [b] := by simpa using hB.ne hp
    refine lc_rng (fun i acc H' => Hold (Keep [b] H H' ∧ Bag H' b (n + i) ∧ ∃ cs : List Nat, acc = (cs.map fun c => mkS [c]).map V.str ∧ (∀ c ∈ cs, isLow c = true) ∧ cs.length = i)) ?_ ?_ ?_
    · exact ⟨Keep.new hp, hB.new hp, [], rfl, fun x hx => (by cases hx), rfl⟩
    · rintro i acc H3 hi ⟨k3, hB3, cs, rfl, hcs, hl⟩ e3
      walk_at "ss"
      refine take_go (by decide) (by decide) hB3 (by omega) fun r2 H4 g5 g6 k4 hB4 => ?_
      obtain ⟨c, hc, ha⟩ := atS (z := "abcdefghijklmnopqrstuvwxyz") g5 g6
      refine w_ixS (le_line (by decide)) ha ?_
      refine ⟨_, k4.get e3 pb, lt_line (by rw [List.length_map, List.length_map]; omega), _, upd_same, (k3.trans k4).updNew hp, (hB4.upd (fun z => pb (by rw [z]; exact List.mem_singleton.mpr rfl))).mono (by omega), cs ++ [c], ?_, ?_, ?_⟩
      · rw [List.map_append, List.map_append]
        rfl
      · intro x hx
        rcases List.mem_append.mp hx with z | z
        · exact hcs x z
        · rw [show x = c by simpa using z]
          exact low_at hc
      · rw [List.length_append, hl]
        rfl
    rintro acc H1 ⟨k1, hB1, cs, rfl, hcs, hl⟩ e1
    have hl7 : cs.length = 7 := hl
    walk_at "ss"
    refine ⟨_, p, cs.map fun c => mkS [c], rfl, rfl, .inl (SqL.of e1), ?_, ?_⟩
    · rw [sum_ones, List.length_map]
      show _ + _ * 0 ≤ _
      omega
    rw [show Txt.join "" (cs.map fun c => mkS [c]) = mkS cs from join_ones cs]
    walk_at "ss"
    intro pf hpf
    have pfb : pf ∉ [b] := by simpa using hB1.ne hpf
    have hpf0 := k1.free hpf
    walk_at "ss"
    refine take_go (by decide) (by decide) (hB1.new hpf) (by omega) fun r1 H2 g1 g2 k2 hB2 => ?_
    walk_at "ss"
    refine take_go (by decide) (by decide) hB2 (by omega) fun r2 H3 g3 g4 k3 hB3 => ?_
    walk_at "ss"
    intro pl hpl
    walk_at "ss"
    refine take_go (by decide) (by decide) (hB3.new hpl) (by omega) fun r3 H4 g5 g6 k4 hB4 => ?_
    have plb : pl ∉ [b] := by simpa using hB3.ne hpl
    have K4 := (((k1.updNew hpf0).trans k2).trans k3).trans ((Keep.new (o := .lst [V.int r1, V.int r2]) hpl).trans k4)
    have ef : H4 pf = some (.lst []) := (k2.trans (k3.trans ((Keep.new hpl).trans k4))).get upd_same pfb
    refine ixL_all (P := fun v => ∃ i : Int, v = .int i ∧ 0 ≤ i ∧ i ≤ 20) (k4.get upd_same plb) g5 (by show r3 < 2; omega) ?_ ?_
    · intro v hv
      simp only [List.mem_cons, List.not_mem_nil, or_false] at hv
      rcases hv with rfl | rfl
      · exact ⟨_, rfl, by omega, by omega⟩
      · exact ⟨_, rfl, by omega, by omega⟩
    rintro _ ⟨many, rfl, m0, m1⟩
    walk_at "ss"
    refine ⟨by omega, by omega, ?_⟩
    refine for_rng (fun i σ' H' => Hold (∃ y3 y5 y6 ns, σ' = [some (.ref b), some (.str "abcdefghijklmnopqrstuvwxyz"), some (.str (mkS cs)), y3, some (.ref pf), y5, y6] ∧ Keep [b] H H' ∧ Bag H' b (n + 10 + 3 * i) ∧ H' pf = some (.lst (nmV ns)) ∧ (∀ x ∈ ns, nameL x = true) ∧ ns.length = i)) ?_ ?_ ?_
    · exact ⟨_, _, _, [], rfl, K4, hB4.mono (by omega), ef, fun x hx => (by cases hx), rfl⟩
    · rintro i σ' H5 hi ⟨y3, y5, y6, ns, rfl, k5, hB5, e5, hns, hln⟩
      walk_at "ss"
      refine take_go (by decide) (by decide) hB5 (by omega) fun r5 H6 g7 g8 k6 hB6 => ?_
      have e6 := k6.get e5 pfb
      have hr5 : r5 = ((r5.toNat : Nat) : Int) := by omega
      walk_at "ss"
      rw [hr5, cutS_to]
      refine take_go (by decide) (by decide) hB6 (by omega) fun r6 H7 g9 g10 k7 hB7 => ?_
      have e7 := k7.get e6 pfb
      obtain ⟨c, hc, ha⟩ := atS (z := "abcdefghijklmnopqrstuvwxyz") g9 g10
      refine w_ixS (le_line (by decide)) ha ?_
      have ht : (cs.take r5.toNat).length = r5.toNat := by rw [List.length_take]; omega
      walk_at "ss"
      rw [mkS_app, show (1 + ((r5.toNat : Nat) : Int)) = ((1 + r5.toNat : Nat) : Int) by omega, cutS_to]
      walk_at "ss"
      intro p8 hp8
      have p8b : p8 ∉ [b] := by simpa using hB7.ne hp8
      walk_at "ss"
      refine take_go (by decide) (by decide) (hB7.new hp8) (by omega) fun r7 H9 g11 g12 k9 hB9 => ?_
      have hlow : ∀ m, ∀ x ∈ cs.take m, isLow x = true := fun m x hx => hcs x (List.mem_of_mem_take hx)
      refine ixL_all (P := isNm) (k9.get upd_same p8b) g11 (by show r7 < 4; omega) ?_ ?_
      · intro v hv
        simp only [List.mem_cons, List.not_mem_nil, or_false] at hv
        rcases hv with rfl | rfl | rfl | rfl
        · refine ⟨_, rfl, name_of (fun x hx => ?_) ?_ ?_⟩
          · rcases List.mem_append.mp hx with z | z
            · exact hlow _ x z
            · rw [show x = c by simpa using z]
              exact low_at hc
          · rw [List.length_append]
            show 1 ≤ _ + 1
            omega
          · rw [List.length_append, ht]
            show _ + 1 ≤ 8
            omega
        · refine ⟨_, rfl, name_of (hlow _) ?_ ?_⟩
          · rw [List.length_take]
            omega
          · rw [List.length_take]
            omega
        · exact ⟨tl "root", by rw [mkS_tl], by decide⟩
        · exact ⟨tl "tmp", by rw [mkS_tl], by decide⟩
      rintro _ ⟨w, rfl, hw⟩
      have e9 : H9 pf = some (.lst (nmV ns)) := ((Keep.new hp8).trans k9).get e7 pfb
      walk_at "ss"
      refine w_append e9 (by rw [nmV_len]; omega) ?_
      walk_at "ss"
      refine ⟨_, _, _, ns ++ [w], rfl, ((((k5.trans k6).trans k7).trans (Keep.new hp8)).trans k9).updNew hpf0, (hB9.upd (fun z => pfb (by rw [z]; exact List.mem_singleton.mpr rfl))).mono (by omega), ?_, ?_, ?_⟩
      · rw [upd_same, nmV_app]
        rfl
      · intro x hx
        rcases List.mem_append.mp hx with z | z
        · exact hns x z
        · rw [show x = w by simpa using z]
          exact hw
      · rw [List.length_append, hln]
        rfl
    rintro σ' H5 ⟨y3, y5, y6, ns, rfl, k5, hB5, e5, hns, hln⟩
    walk_at "ss"
    refine ⟨⟨_, SqL.of e5⟩, fun pr hpr => ?_⟩
    have prb : b ≠ pr := (hB5.ne hpr).symm
    refine lc_lst (xs := nmV ns) (fun i acc H' => Hold (Keep [] H5 H' ∧ acc = nmV (ns.take i))) ?_ ?_ ?_ ?_
    · exact ⟨Keep.new hpr, rfl⟩
    · rintro i acc H6 _ ⟨k6, _⟩ _
      exact SqL.of (k6.get e5 (by simp))
    · rintro i acc x H6 hx ⟨k6, rfl⟩ e6
      unfold nmV at hx
      rw [List.map_map, List.getElem?_map] at hx
      obtain ⟨w, hw, rfl⟩ := Option.map_eq_some_iff.mp hx
      have hwl := name_len (hns w (List.mem_of_getElem? hw))
      have hil := (List.getElem?_eq_some_iff.mp hw).1
      walk_at "ss"
      show rSlS (.str (mkS w)) none (some 8) H6 _
      refine w_slS (le_line (by rw [mkS_len]; omega)) ?_
      rw [show cutS (mkS w) none (some 8) = mkS w from (cutS_to w 8).trans (by rw [List.take_of_length_le (by omega)])]
      refine ⟨_, e6, lt_line (by rw [nmV_len, List.length_take]; omega), _, upd_same, k6.updNew hpr, ?_⟩
      rw [take_snoc hw, nmV_app]
      rfl
    rintro acc H6 ⟨k6, rfl⟩ e6
    rw [nmV_len, List.take_length] at e6
    walk_at "ss"
    have hB6 : Bag H6 b (n + 100) := by
      obtain ⟨x, y, z, eb, h1, h2, h3, h4, h5⟩ := hB5
      exact ⟨x, y, z, k6.get eb (by simp), h1, h2, h3, h4, by omega⟩
    exact q pr H6 ns (k5.free hpr) (k5.trans (k6.mono fun _ h => by cases h)) hB6 e6 ⟨hns, by omega⟩ (by omega)
def runL (ns : List (List Nat)) : List Nat := (ns.map fun n => 47 :: n).flatten
theorem runL_app (a b : List (List Nat)) : runL (a ++ b) = runL a ++ runL b := by simp [runL]
theorem run_join : ∀ ns : List (List Nat), ns ≠ [] → 47 :: TL.joinL [47] ns = runL ns
  | [], h => absurd rfl h
  | [n], _ => by simp [runL, TL.joinL]
  | n :: m :: r, _ => by
    have ih := run_join (m :: r) (by simp)
    show 47 :: (n ++ ([47] ++ TL.joinL [47] (m :: r))) = (47 :: n) ++ runL (m :: r)
    rw [← ih]
    rfl
theorem run_len {ns : List (List Nat)} (h : Nms ns) : (runL ns).length ≤ 9001 := by
  by_cases hn : ns = []
  · subst hn
    exact Nat.zero_le _
  · rw [← run_join ns hn]
    exact h.len
def spText : Sp := fun vs H Q _ => ∃ a ns, vs = [.ref a] ∧ H a = some (.lst (nmV ns)) ∧ Nms ns ∧ Q (.str (pth ns)) H
theorem ok_law_text (T : Txt K mg) : FnOk P w K mg base CX0 1 (He.ga K "_law_text") (fdOf K (He.ga K "_law_text")) ["_law_names_here"] (spText) := by
  refine T.F_law_text.ok sc_law_text (fun vs H Q E h => ?len) (fun cdv A outer s H vs Q E hr h => ?body)
  case len =>
    obtain ⟨a, ns, rfl, _⟩ := h
    rfl
  case body =>
    obtain ⟨a, ns, rfl, ea, hN, q⟩ := h
    have nd := sc_law_text.nd
    have hu := hu_of hr
    refine ⟨_, PSs.nox (pss_cons (ps_set (i := 1) nd rfl (Or.inl rfl) (pe_str))
      (pss_cons (ps_for PassesOwn.never rfl (pi_list (pv 0)) (pg_name (i := 2) nd rfl (Or.inl rfl))
        (pss_one (ps_set (i := 1) nd rfl (Or.inl rfl) (pe_op op_addT (pe_op op_addT (pv 1) pe_str) (pv 2)))))
      (pss_one (ps_ret (pe_orT (pv 1) (pe_one pe_str)))))), ?_⟩
    walk_at "ss"
    refine ⟨⟨_, SqL.of ea⟩, ?_⟩
    refine for_lst (xs := nmV ns) (fun i σ' H' => Hold (∃ y, σ' = [some (.ref a), some (.str (mkS (runL (ns.take i)))), y] ∧ H' = H)) ?_ ?_ ?_ ?_
    · exact ⟨_, rfl, rfl⟩
    · rintro i σ' H' _ ⟨y, _, rfl⟩
      exact SqL.of ea
    · rintro i x σ' H' hx ⟨y, rfl, rfl⟩
      unfold nmV at hx
      rw [List.map_map, List.getElem?_map] at hx
      obtain ⟨w, hw, rfl⟩ := Option.map_eq_some_iff.mp hx
      have h1 := run_len (hN.take i)
      have h2 := name_len (hN.1 w (List.mem_of_getElem? hw))
      walk_at "ss"
      refine w_addT (by rw [mkS_len]; show _ + 1 ≤ _; omega) ?_
      walk_at "ss"
      show rAddT _ (.str (mkS w)) _ _
      refine w_addT (by rw [app_len, mkS_len, mkS_len]; show _ + 1 + _ ≤ _; omega) ?_
      walk_at "ss"
      refine ⟨some (.str (mkS w)), ?_, rfl⟩
      rw [take_snoc hw, runL_app, show ("/" : Str) = mkS [47] from rfl, mkS_app, mkS_app]
      simp [runL]
    rintro σ' H' ⟨y, rfl, rfl⟩
    rw [nmV_len, List.take_length]
    walk_at "ss"
    have h1 := run_len hN
    by_cases hn : ns = []
    · subst hn
      refine ⟨false, ⟨le_line (Nat.zero_le _), rfl⟩, ?_⟩
      walk_at "ss"
      exact q
    · refine ⟨true, ⟨le_line (by rw [mkS_len]; omega), ?_⟩, ?_⟩
      · rw [mkS_len, ← run_join ns hn]
        rfl
      walk_at "ss"
      rw [← run_join ns hn]
      exact q
theorem lay_ints : ∀ l : List Int, PyData.canLayAll0 (l.map PyData.int) = true ∧ PyData.depthAll (l.map PyData.int) = 0
  | [] => ⟨rfl, rfl⟩
  | x :: l => by
    obtain ⟨a, b⟩ := lay_ints l
    constructor
    · simp [PyData.canLayAll0, PyData.canLay0, a]
    · simp [PyData.depthAll, PyData.depth, b]
theorem shaped_ints (l : List Int) : SeqAt.shaped (.list (l.map PyData.int)) = true := by
  obtain ⟨a, b⟩ := lay_ints l
  unfold SeqAt.shaped
  simp [PyData.canLay0, a, PyData.depth, b]
theorem dp_ints {K : PySem.W.Frag} {H : Hp} : ∀ l : List Int, DpAll K H (l.map V.int) (l.map PyData.int)
  | [] => .nil
  | x :: l => .cons (.int x) (dp_ints l)
theorem eqv_ints_nil (l : List Int) : PyData.eqv (.list (l.map PyData.int)) (.list []) = l.isEmpty := by
  cases l <;> simp [PyData.eqv, PyData.eqvAll]
def spLB : Sp := fun vs H Q _ => ∃ a b ns ms, vs = [.ref a, .ref b] ∧ H a = some (.lst (nmV ns)) ∧ H b = some (.lst (nmV ms)) ∧ Nms ns ∧ Nms ms ∧ ∀ H', Keep [] H H' → Q (.bl (below ns ms)) H'
theorem ok_law_below (T : Txt K mg) : FnOk P w K mg base CX0 1 (He.ga K "_law_below") (fdOf K (He.ga K "_law_below")) ["_law_names_here", "_law_others"] (spLB) := by
  refine T.F_law_below.ok sc_law_below (fun vs H Q E h => ?len) (fun cdv A outer s H vs Q E hr h => ?body)
  case len =>
    obtain ⟨a, b, ns, ms, rfl, _⟩ := h
    rfl
  case body =>
    obtain ⟨a, b, ns, ms, rfl, ea, eb, hN, hM, q⟩ := h
    have nd := sc_law_below.nd
    have hu := hu_of hr
    refine ⟨_, PSs.nox (pss_cons (ps_if (pt_cmpR op_le (pe_callB call_len_seq (by rfl) T.m_len PySem.boot_len (pa_cons (pv 0) pa_nil)) (pe_callB call_len_seq (by rfl) T.m_len PySem.boot_len (pa_cons (pv 1) pa_nil)) (nomark _))
        (pss_one (ps_ret (pe_bl)))
        (pss_nil))
      (pss_one (ps_ret (pe_cmpR (op_eqD hr.units) (pe_lc (own := [("_law_k", 2)]) (g := gName 2) rfl nd (pi_range1 rfl T.m_range (pa_cons (pe_callB call_len_seq (by rfl) T.m_len PySem.boot_len (pa_cons (pv 1) pa_nil)) pa_nil)) (blkOk_by (own := [("_law_k", 2)]) (N := N_law_below) (sc := defScope s_law_below) (by decide +kernel)) (fun _ _ _ _ _ => pg_name (i := 2) nd rfl (Or.inl rfl)) (fun _ _ _ _ _ => pts_one (pt_cmpR op_ne (pe_ix (ix_listB (K := K) rfl) (pv 0) (pv 2) (fun _ _ => rfl)) (pe_ix (ix_listB (K := K) rfl) (pv 1) (pv 2) (fun _ _ => rfl)) (nomark _))) (fun _ _ _ _ _ => pv 2)) (pe_lst pa_nil) (nomark _))))), ?_⟩
    walk_at "ss"
    refine ⟨a, _, rfl, .inl (SqL.of ea), ?_⟩
    walk_at "ss"
    refine ⟨b, _, rfl, .inl (SqL.of eb), ?_⟩
    rw [nmV_len, nmV_len]
    walk_at "ss"
    refine w_ite (fun h1 => ?_) (fun h1 => ?_)
    · walk_at "ss"
      rw [show below ns ms = false by unfold below; rw [decide_eq_false (by omega)]; rfl] at q
      exact q _ (Keep.refl _)
    walk_at "ss"
    refine ⟨b, _, rfl, .inl (SqL.of eb), ?_⟩
    rw [nmV_len]
    walk_at "ss"
    have hL := hM.2
    refine ⟨by omega, by omega, fun p hp => ?_⟩
    refine lc_rng (fun i acc H' => Hold (Keep [] H H' ∧ ∃ l : List Int, acc = l.map V.int ∧ l.length ≤ i ∧ (l = [] ↔ ns.take i = ms.take i))) ?_ ?_ ?_
    · exact ⟨Keep.new hp, [], rfl, Nat.le_refl _, by simp⟩
    · rintro i acc H1 hi ⟨k1, l, rfl, hl, hiff⟩ e1
      have hi : i < ms.length := by omega
      have hi2 : i < ns.length := by omega
      have h2 : ns[i]? = some ns[i] := List.getElem?_eq_getElem hi2
      have h3 : ms[i]? = some ms[i] := List.getElem?_eq_getElem hi
      walk_at "ss"
      refine w_ixLS (SqL.of (k1.get ea (by simp))) (atI_of (nmV_get h2) (by omega)) ?_
      walk_at "ss"
      refine w_ixLS (SqL.of (k1.get eb (by simp))) (atI_of (nmV_get h3) (by omega)) ?_
      walk_at "ss"
      refine w_iteNS (fun e => ?_) (fun e => ?_)
      · walk_at "ss"
        refine ⟨_, e1, lt_line (by rw [List.length_map]; omega), _, upd_same, k1.updNew hp, l ++ [0 + (i : Int)], by rw [List.map_append]; rfl, by rw [List.length_append]; show _ + 1 ≤ _; omega, ?_⟩
        constructor
        · intro z
          simp at z
        · intro z
          rw [take_snoc h2, take_snoc h3] at z
          have := List.append_inj' z rfl
          exact absurd (congrArg mkS (List.cons.inj this.2).1) e
      · refine ⟨_, e1, k1, l, rfl, by omega, ?_⟩
        rw [take_snoc h2, take_snoc h3, mkS_inj e]
        constructor
        · intro z
          rw [hiff.mp z]
        · intro z
          exact hiff.mpr (List.append_inj' z rfl).1
    rintro acc H1 ⟨k1, l, rfl, hl, hiff⟩ e1
    walk_at "ss"
    intro p2 hp2
    refine w_eqD (.lst (SqL.of (stay e1 hp2)) (dp_ints l)) (.lst (SqL.of upd_same) .nil) (shaped_ints l) shaped_nil ?_
    rw [eqv_ints_nil]
    have hb : below ns ms = l.isEmpty := by
      unfold below
      rw [decide_eq_true (by omega), Bool.true_and]
      have hiff : l = [] ↔ ns.take ms.length = ms := by
        have := hiff
        rw [show ((ms.length : Int)).toNat = ms.length by omega, List.take_length] at this
        exact this
      cases l with
      | nil => exact decide_eq_true (hiff.mp rfl)
      | cons x r => exact decide_eq_false fun z => by cases hiff.mpr z
    rw [hb] at q
    exact q _ (k1.trans (Keep.new hp2))
def spJR : Sp := fun vs H Q _ => ∃ (a : Addr) (ns : List (List Nat)) (k : Nat), vs = [.ref a, .int (k : Nat)] ∧ H a = some (.lst (nmV ns)) ∧ Nms ns ∧ k ≤ ns.length ∧ ∀ H', Keep [] H H' → Q (.bl true) H'
theorem ge_cons {α : Type} : ∀ (n : Nat) (l : List α), n ≤ l.length → ∃ a r, l = a ++ r ∧ a.length = n := fun n l h => ⟨l.take n, l.drop n, (List.take_append_drop n l).symm, by rw [List.length_take]; omega⟩
theorem take_more {ns : List (List Nat)} {k m : Nat} {ds r : List (List Nat)} (h : ns.drop k = ds ++ r) (hm : ds.length = m) : ns.take k ++ ds = ns.take (k + m) := by
  rw [List.take_add, h, ← hm, List.take_left]
theorem ok_law_joined_right (T : Txt K mg) : FnOk P w K mg base CX0 6 (He.ga K "_law_joined_right") (fdOf K (He.ga K "_law_joined_right")) ["_law_names_here", "_law_at"] (spJR) := by
  refine T.F_law_joined_right.ok sc_law_joined_right (fun vs H Q E h => ?len) (fun cdv A outer s H vs Q E hr h => ?body)
  case len =>
    obtain ⟨a, ns, k, rfl, _⟩ := h
    rfl
  case body =>
    obtain ⟨a, ns, k, rfl, ea, hN, hk, q⟩ := h
    have nd := sc_law_joined_right.nd
    have hu := hu_of hr
    refine ⟨_, PSs.nox (pss_cons (ps_par (i := 2) (j := 3) (by rfl) nd rfl rfl (by decide) rfl rfl (pa_cons (pe_call (ok_law_text T) (hr.mono (by decide)) (by rfl) T.m_law_text T.F_law_text.kp (bN_law_text T.F_law_text) .nil pass0 (pa_cons (pe_slice sl_list (pv 0) po_none (po_some (pv 1))) pa_nil)) (pa_cons (pe_slice sl_list (pv 0) (po_some (pv 1)) po_none) pa_nil)) (by rfl))
      (pss_cons (ps_if (pt_cmpR op_ne (pe_callR (ok_joined T) (hr.mono (by decide)) (by rfl) T.m_joined T.F_joined.kp pass0 (pa_cons (pv 2) pa_nil)) (pv 2) (nomark _))
        (pss_one (ps_ret (pe_bl)))
        (pss_nil))
      (pss_cut (ps_if (PW.pt (pw_and (pt_cmpR op_gt (pe_callB call_len_seq (by rfl) T.m_len PySem.boot_len (pa_cons (pv 3) pa_nil)) pe_int (nomark _)) (pw_and1 (pt_cmpR op_ne (pe_callR (ok_joined T) (hr.mono (by decide)) (by rfl) T.m_joined T.F_joined.kp pass0 (pa_cons (pv 2) (pa_cons (pe_ix ix_list (pv 3) pe_int (fun _ _ => rfl)) pa_nil))) (pe_call (ok_law_text T) (hr.mono (by decide)) (by rfl) T.m_law_text T.F_law_text.kp (bN_law_text T.F_law_text) .nil pass0 (pa_cons (pe_slice sl_list (pv 0) po_none (po_some (pe_op op_add (pv 1) pe_int))) pa_nil)) (nomark _)))))
        (pss_one (ps_ret (pe_bl)))
        (pss_nil))
      (pss_cut (ps_if (PW.pt (pw_and (pt_cmpR op_gt (pe_callB call_len_seq (by rfl) T.m_len PySem.boot_len (pa_cons (pv 3) pa_nil)) pe_int (nomark _)) (pw_and1 (pt_cmpR op_ne (pe_callR (ok_joined T) (hr.mono (by decide)) (by rfl) T.m_joined T.F_joined.kp pass0 (pa_cons (pv 2) (pa_cons (pe_ix ix_list (pv 3) pe_int (fun _ _ => rfl)) (pa_cons (pe_ix ix_list (pv 3) pe_int (fun _ _ => rfl)) pa_nil)))) (pe_call (ok_law_text T) (hr.mono (by decide)) (by rfl) T.m_law_text T.F_law_text.kp (bN_law_text T.F_law_text) .nil pass0 (pa_cons (pe_slice sl_list (pv 0) po_none (po_some (pe_op op_add (pv 1) pe_int))) pa_nil)) (nomark _)))))
        (pss_one (ps_ret (pe_bl)))
        (pss_nil))
      (pss_cut (ps_if (PW.pt (pw_and (pt_cmpR op_gt (pe_callB call_len_seq (by rfl) T.m_len PySem.boot_len (pa_cons (pv 3) pa_nil)) pe_int (nomark _)) (pw_and1 (pt_cmpR op_ne (pe_callR (ok_joined T) (hr.mono (by decide)) (by rfl) T.m_joined T.F_joined.kp pass0 (pa_cons (pv 2) (pa_cons (pe_ix ix_list (pv 3) pe_int (fun _ _ => rfl)) (pa_cons (pe_ix ix_list (pv 3) pe_int (fun _ _ => rfl)) (pa_cons (pe_ix ix_list (pv 3) pe_int (fun _ _ => rfl)) (pa_cons (pe_ix ix_list (pv 3) pe_int (fun _ _ => rfl)) (pa_cons (pe_ix ix_list (pv 3) pe_int (fun _ _ => rfl)) pa_nil))))))) (pe_call (ok_law_text T) (hr.mono (by decide)) (by rfl) T.m_law_text T.F_law_text.kp (bN_law_text T.F_law_text) .nil pass0 (pa_cons (pe_slice sl_list (pv 0) po_none (po_some (pe_op op_add (pv 1) pe_int))) pa_nil)) (nomark _)))))
        (pss_one (ps_ret (pe_bl)))
        (pss_nil))
      (pss_one (ps_ret (pe_or (pe_cmpR op_lt (pe_callB call_len_seq (by rfl) T.m_len PySem.boot_len (pa_cons (pv 3) pa_nil)) pe_int (nomark _)) (pe_one (pe_cmpR op_eq (pe_callR (ok_joined T) (hr.mono (by decide)) (by rfl) T.m_joined T.F_joined.kp pass0 (pa_cons (pv 2) (pa_cons (pe_ix ix_list (pv 3) pe_int (fun _ _ => rfl)) (pa_cons (pe_ix ix_list (pv 3) pe_int (fun _ _ => rfl)) (pa_cons (pe_ix ix_list (pv 3) pe_int (fun _ _ => rfl)) pa_nil))))) (pe_call (ok_law_text T) (hr.mono (by decide)) (by rfl) T.m_law_text T.F_law_text.kp (bN_law_text T.F_law_text) .nil pass0 (pa_cons (pe_slice sl_list (pv 0) po_none (po_some (pe_op op_add (pv 1) pe_int))) pa_nil)) (nomark _))))))))))), ?_⟩
    walk_at "ss"
    refine w_slL (SqL.of ea) fun p1 hp1 => ?_
    rw [cutV_to, nmV_take]
    walk_at "ss"
    refine ⟨p1, ns.take k, rfl, upd_same, hN.take _, ?_⟩
    walk_at "ss"
    refine w_slL (SqL.of (stay ea hp1)) fun p2 hp2 => ?_
    rw [cutV_from, nmV_drop]
    have ea2 := stay (u := .lst (nmV (ns.drop k))) (stay (u := .lst (nmV (ns.take k))) ea hp1) hp2
    have er : upd (upd H p1 (.lst (nmV (ns.take k)))) p2 (.lst (nmV (ns.drop k))) p2 = some (.lst (nmV (ns.drop k))) := upd_same
    have k2 := (Keep.new (S := []) (o := .lst (nmV (ns.take k))) hp1).trans (Keep.new (o := .lst (nmV (ns.drop k))) hp2)
    generalize upd (upd H p1 (.lst (nmV (ns.take k)))) p2 (.lst (nmV (ns.drop k))) = H2 at ea2 er k2 ⊢
    walk_at "ss"
    refine ⟨[_], [], rfl, rfl, by rw [sizeLine_eq]; exact Nat.zero_le _, fun p3 hp3 => ⟨ns.take k, [], p3, rfl, ?_, upd_same, fun H3 k3 => ?_⟩⟩
    · rw [List.append_nil]
      exact hN.take _
    rw [List.append_nil]
    walk_at "ss"
    refine w_iteNS (fun z => absurd rfl z) (fun _ => ?_)
    have K3 := k2.trans ((Keep.new hp3).trans k3)
    have ea3 := ((Keep.new hp3).trans k3).get ea2 (by simp)
    have er3 := ((Keep.new hp3).trans k3).get er (by simp)
    clear ea2 er k2
    walk_at "ss"
    refine ⟨fun σ' H' => Hold <| σ' = [some (.ref a), some (.int k), some (.str (pth (ns.take k))), some (.ref p2)] ∧ Keep [] H3 H', ?_, ?_⟩
    · walk_at "ss"
      refine ⟨p2, _, rfl, .inl (SqL.of er3), ?_⟩
      rw [nmV_len]
      walk_at "ss"
      refine w_ite (fun h1 => ?_) (fun _ => ?_)
      · obtain ⟨ds, r, hd, hl⟩ := ge_cons 1 (ns.drop k) (by omega)
        match ds, hl with
        | [d0], hl =>
        have ht := take_more hd hl
        have er4 := er3
        rw [hd] at er4
        walk_at "ss"
        refine ⟨[_], [_], rfl, rfl, by rw [sizeLine_eq]; exact Nat.le_of_ble_eq_true rfl, fun p4 hp4 => ⟨ns.take k, [d0], p4, rfl, by rw [ht]; exact hN.take _, upd_same, fun H4 k4 => ?_⟩⟩
        rw [ht]
        have K4 := (Keep.new hp4).trans k4
        walk_at "ss"
        refine w_slL (SqL.of (K4.get ea3 (by simp))) fun p5 hp5 => ?_
        rw [show ((k : Int) + 1) = ((k + 1 : Nat) : Int) by omega, cutV_to, nmV_take]
        walk_at "ss"
        refine ⟨p5, ns.take (k + 1), rfl, upd_same, hN.take _, ?_⟩
        walk_at "ss"
        refine w_iteNS (fun z => absurd rfl z) (fun _ => ?_)
        walk_at "ss"
        exact ⟨rfl, K4.trans (Keep.new hp5)⟩
      · walk_at "ss"
        exact ⟨rfl, Keep.refl _⟩
    rintro _ H4 ⟨rfl, k4⟩
    have K4 := K3.trans k4
    have ea4 := k4.get ea3 (by simp)
    have er4 := k4.get er3 (by simp)
    clear ea3 er3 K3 k4
    refine ⟨fun σ' H' => Hold <| σ' = [some (.ref a), some (.int k), some (.str (pth (ns.take k))), some (.ref p2)] ∧ Keep [] H4 H', ?_, ?_⟩
    · walk_at "ss"
      refine ⟨p2, _, rfl, .inl (SqL.of er4), ?_⟩
      rw [nmV_len]
      walk_at "ss"
      refine w_ite (fun h1 => ?_) (fun _ => ?_)
      · obtain ⟨ds, r, hd, hl⟩ := ge_cons 2 (ns.drop k) (by omega)
        match ds, hl with
        | [d0, d1], hl =>
        have ht := take_more hd hl
        have er5 := er4
        rw [hd] at er5
        walk_at "ss"
        refine w_ixLS (SqL.of er5) (atI_of (j := 1) rfl rfl) ?_
        walk_at "ss"
        refine ⟨[_], [_, _], rfl, rfl, by rw [sizeLine_eq]; exact Nat.le_of_ble_eq_true rfl, fun p5 hp5 => ⟨ns.take k, [d0, d1], p5, rfl, by rw [ht]; exact hN.take _, upd_same, fun H5 k5 => ?_⟩⟩
        rw [ht]
        have K5 := (Keep.new hp5).trans k5
        walk_at "ss"
        refine w_slL (SqL.of (K5.get ea4 (by simp))) fun p6 hp6 => ?_
        rw [show ((k : Int) + 2) = ((k + 2 : Nat) : Int) by omega, cutV_to, nmV_take]
        walk_at "ss"
        refine ⟨p6, ns.take (k + 2), rfl, upd_same, hN.take _, ?_⟩
        walk_at "ss"
        refine w_iteNS (fun z => absurd rfl z) (fun _ => ?_)
        walk_at "ss"
        exact ⟨rfl, K5.trans (Keep.new hp6)⟩
      · walk_at "ss"
        exact ⟨rfl, Keep.refl _⟩
    rintro _ H5 ⟨rfl, k5⟩
    have K5 := K4.trans k5
    have ea5 := k5.get ea4 (by simp)
    have er5 := k5.get er4 (by simp)
    clear ea4 er4 K4 k5
    refine ⟨fun σ' H' => Hold <| σ' = [some (.ref a), some (.int k), some (.str (pth (ns.take k))), some (.ref p2)] ∧ Keep [] H5 H', ?_, ?_⟩
    · walk_at "ss"
      refine ⟨p2, _, rfl, .inl (SqL.of er5), ?_⟩
      rw [nmV_len]
      walk_at "ss"
      refine w_ite (fun h1 => ?_) (fun _ => ?_)
      · obtain ⟨ds, r, hd, hl⟩ := ge_cons 5 (ns.drop k) (by omega)
        match ds, hl with
        | [d0, d1, d2, d3, d4], hl =>
        have ht := take_more hd hl
        have er6 := er5
        rw [hd] at er6
        walk_at "ss"
        refine w_ixLS (SqL.of er6) (atI_of (j := 1) rfl rfl) ?_
        walk_at "ss"
        refine w_ixLS (SqL.of er6) (atI_of (j := 2) rfl rfl) ?_
        walk_at "ss"
        refine w_ixLS (SqL.of er6) (atI_of (j := 3) rfl rfl) ?_
        walk_at "ss"
        refine w_ixLS (SqL.of er6) (atI_of (j := 4) rfl rfl) ?_
        walk_at "ss"
        refine ⟨[_], [_, _, _, _, _], rfl, rfl, by rw [sizeLine_eq]; exact Nat.le_of_ble_eq_true rfl, fun p6 hp6 => ⟨ns.take k, [d0, d1, d2, d3, d4], p6, rfl, by rw [ht]; exact hN.take _, upd_same, fun H6 k6 => ?_⟩⟩
        rw [ht]
        have K6 := (Keep.new hp6).trans k6
        walk_at "ss"
        refine w_slL (SqL.of (K6.get ea5 (by simp))) fun p7 hp7 => ?_
        rw [show ((k : Int) + 5) = ((k + 5 : Nat) : Int) by omega, cutV_to, nmV_take]
        walk_at "ss"
        refine ⟨p7, ns.take (k + 5), rfl, upd_same, hN.take _, ?_⟩
        walk_at "ss"
        refine w_iteNS (fun z => absurd rfl z) (fun _ => ?_)
        walk_at "ss"
        exact ⟨rfl, K6.trans (Keep.new hp7)⟩
      · walk_at "ss"
        exact ⟨rfl, Keep.refl _⟩
    rintro _ H6 ⟨rfl, k6⟩
    have K6 := K5.trans k6
    have ea6 := k6.get ea5 (by simp)
    have er6 := k6.get er5 (by simp)
    clear ea5 er5 K5 k6
    walk_at "ss"
    refine ⟨p2, _, rfl, .inl (SqL.of er6), ?_⟩
    rw [nmV_len]
    walk_at "ss"
    refine w_ite (fun h1 => ?_) (fun h1 => ?_)
    · exact q _ K6
    · obtain ⟨ds, r, hd, hl⟩ := ge_cons 3 (ns.drop k) (by omega)
      match ds, hl with
      | [d0, d1, d2], hl =>
      have ht := take_more hd hl
      have er7 := er6
      rw [hd] at er7
      walk_at "ss"
      refine w_ixLS (SqL.of er7) (atI_of (j := 1) rfl rfl) ?_
      walk_at "ss"
      refine w_ixLS (SqL.of er7) (atI_of (j := 2) rfl rfl) ?_
      walk_at "ss"
      refine ⟨[_], [_, _, _], rfl, rfl, by rw [sizeLine_eq]; exact Nat.le_of_ble_eq_true rfl, fun p7 hp7 => ⟨ns.take k, [d0, d1, d2], p7, rfl, by rw [ht]; exact hN.take _, upd_same, fun H7 k7 => ?_⟩⟩
      rw [ht]
      have K7 := (Keep.new hp7).trans k7
      walk_at "ss"
      refine w_slL (SqL.of (K7.get ea6 (by simp))) fun p8 hp8 => ?_
      rw [show ((k : Int) + 3) = ((k + 3 : Nat) : Int) by omega, cutV_to, nmV_take]
      walk_at "ss"
      refine ⟨p8, ns.take (k + 3), rfl, upd_same, hN.take _, ?_⟩
      walk_at "ss"
      rw [decide_eq_true rfl]
      exact q _ ((K6.trans K7).trans (Keep.new hp8))
end
section
variable {P : Program} {w : World} {K : PySem.W.Frag} {mg : Str → Option Value} {base : Heap}
theorem aboveV_ne {ns : List (List Nat)} (h : ns ≠ []) : aboveV ns = .str (pth ns.dropLast) := if_neg h
theorem cutV_m1 (xs : List V) : cutV xs none (some (-1)) = xs.dropLast := by
  unfold cutV
  rw [HT.sIx_none, List.drop_zero, Nat.sub_zero, List.dropLast_eq_take]
  congr 1
  unfold HT.sIx
  simp
  omega
theorem eqv_nil (a : List (List Nat)) : PyData.eqv (.list ((a.map mkS).map PyData.str)) (.list []) = decide (a = []) := eqv_strs a []
theorem nms_app {a b : List (List Nat)} (ha : Nms a) (hb : ∀ n ∈ b, nameL n = true) (hl : b.length ≤ 100) (hl2 : a.length ≤ 100) : Nms (a ++ b) := ⟨fun n hn => (List.mem_append.mp hn).elim (ha.1 n) (hb n), by rw [List.length_append]; omega⟩
theorem ok_law (T : Txt K mg) : FnOk P w K mg base CX0 8 (He.ga K "law") (fdOf K (He.ga K "law")) ["_law_script"] (spLaw K) := by
  refine T.F_law.ok sc_law (fun vs H Q E h => ?len) (fun cdv A outer s H vs Q E hr h => ?body)
  case len =>
    obtain ⟨a, ns, rfl, _⟩ := h
    rfl
  case body =>
    obtain ⟨a, zs, rfl, hS, hzs, q⟩ := h
    have nd := sc_law.nd
    have hu := hu_of hr
    refine ⟨_, PSs.nox (pss_cons (ps_for PassesOwn.never rfl (pi_range1 rfl T.m_range (pa_cons (pe_callB (call_max2 rfl) (by rfl) T.m_max (by decide +kernel) (pa_cons pe_int (pa_cons (pe_callB (call_min2 rfl) (by rfl) T.m_min (by decide +kernel) (pa_cons pe_int (pa_cons (pe_callB call_len_seq (by rfl) T.m_len PySem.boot_len (pa_cons (pv 0) pa_nil)) pa_nil))) pa_nil))) pa_nil)) (pg_name (i := 1) nd rfl (Or.inl rfl))
        (pss_cons (ps_set (i := 2) nd rfl (Or.inl rfl) (pe_call (ok_law_bag T) (hr.mono (by decide)) (by rfl) T.m_law_bag T.F_law_bag.kp (bN_law_bag T.F_law_bag) .nil pass0 (pa_cons (pe_call (ok_law_cell T) (hr.mono (by decide)) (by rfl) T.m_law_cell T.F_law_cell.kp (bN_law_cell T.F_law_cell) .nil pass0 (pa_cons (pv 0) (pa_cons (pv 1) pa_nil))) pa_nil)))
        (pss_cons (ps_set (i := 3) nd rfl (Or.inl rfl) (pe_call (ok_law_names T) (hr.mono (by decide)) (by rfl) T.m_law_names T.F_law_names.kp (bN_law_names T.F_law_names) .nil pass0 (pa_cons (pv 2) pa_nil)))
        (pss_cons (ps_set (i := 4) nd rfl (Or.inl rfl) (pe_call (ok_law_text T) (hr.mono (by decide)) (by rfl) T.m_law_text T.F_law_text.kp (bN_law_text T.F_law_text) .nil pass0 (pa_cons (pv 3) pa_nil)))
        (pss_cons (ps_for PassesOwn.never rfl (pi_range1 rfl T.m_range (pa_cons pe_int pa_nil)) (pg_name (i := 5) nd rfl (Or.inl rfl))
          (pss_cons (ps_set (i := 6) nd rfl (Or.inl rfl) (pe_call (ok_parts_of T) (hr.mono (by decide)) (by rfl) T.m_parts_of T.F_parts_of.kp (bN_parts_of T.F_parts_of) .nil pass0 (pa_cons (pv 4) pa_nil)))
          (pss_cons (ps_if (PW.pt (pw_or (pt_not (pt_val (pe_callB call_isi (by rfl) T.m_isinstance (by decide +kernel) (pa_cons (pv 6) (pa_cons (pe_bltn (v := .ty "list") (by rfl) T.m_list (by decide +kernel) rfl) pa_nil))))) (pw_or1 (pt_cmpR (op_neD hr.units) (pv 6) (pv 3) (nomark _)))))
            (pss_one (ps_ret (pe_bl)))
            (pss_nil))
          (pss_one (ps_expr (pe_bm PySem.F.plainAttrs_list PySem.F.slot_list_append PySem.F.type_list_append mt_append (pv 6) (pa_cons pe_str pa_nil)))))))
        (pss_cons (ps_for PassesOwn.never rfl (pi_range1 rfl T.m_range (pa_cons (pe_op op_add (pe_callB call_len_seq (by rfl) T.m_len PySem.boot_len (pa_cons (pv 3) pa_nil)) pe_int) pa_nil)) (pg_name (i := 7) nd rfl (Or.inl rfl))
          (pss_one (ps_if (pt_not (pt_val (pe_call (ok_law_joined_right T) (hr.mono (by decide)) (by rfl) T.m_law_joined_right T.F_law_joined_right.kp (bN_law_joined_right T.F_law_joined_right) .nil pass0 (pa_cons (pv 3) (pa_cons (pv 7) pa_nil)))))
            (pss_one (ps_ret (pe_bl)))
            (pss_nil))))
        (pss_cut (ps_set (i := 8) nd rfl (Or.inl rfl) (pe_ifExp (pt_cmpR (op_neD hr.units) (pv 3) (pe_lst pa_nil) (nomark _)) (pe_call (ok_law_text T) (hr.mono (by decide)) (by rfl) T.m_law_text T.F_law_text.kp (bN_law_text T.F_law_text) .nil pass0 (pa_cons (pe_slice sl_list (pv 3) po_none (po_some (pe_un un_neg pe_int))) pa_nil)) pe_non))
        (pss_cons (ps_if (pt_cmpR op_ne (pe_call (ok_above T) (hr.mono (by decide)) (by rfl) T.m_above T.F_above.kp (bN_above T.F_above) .nil pass0 (pa_cons (pv 4) pa_nil)) (pv 8) (nomark _))
          (pss_one (ps_ret (pe_bl)))
          (pss_nil))
        (pss_cons (ps_set (i := 9) nd rfl (Or.inl rfl) (pe_slice sl_list (pe_op op_cat (pe_slice sl_list (pv 3) po_none (po_some (pe_call (ok_law_take T) (hr.mono (by decide)) (by rfl) T.m_law_take T.F_law_take.kp (bN_law_take T.F_law_take) .nil pass0 (pa_cons (pv 2) (pa_cons (pe_op op_add (pe_callB call_len_seq (by rfl) T.m_len PySem.boot_len (pa_cons (pv 3) pa_nil)) pe_int) pa_nil))))) (pe_slice sl_list (pe_call (ok_law_names T) (hr.mono (by decide)) (by rfl) T.m_law_names T.F_law_names.kp (bN_law_names T.F_law_names) .nil pass0 (pa_cons (pv 2) pa_nil)) po_none (po_some (pe_call (ok_law_take T) (hr.mono (by decide)) (by rfl) T.m_law_take T.F_law_take.kp (bN_law_take T.F_law_take) .nil pass0 (pa_cons (pv 2) (pa_cons pe_int pa_nil)))))) po_none (po_some pe_int)))
        (pss_cons (ps_for PassesOwn.never rfl (pi_list (pe_lst (pa_cons (pe_tup (pa_cons (pv 3) (pa_cons (pv 9) pa_nil))) (pa_cons (pe_tup (pa_cons (pv 9) (pa_cons (pv 3) pa_nil))) (pa_cons (pe_tup (pa_cons (pv 3) (pa_cons (pv 3) pa_nil))) (pa_cons (pe_tup (pa_cons (pv 3) (pa_cons (pe_lst pa_nil) pa_nil))) (pa_cons (pe_tup (pa_cons (pe_lst pa_nil) (pa_cons (pv 9) pa_nil))) pa_nil))))))) (pg_tup rfl (pgs_cons (pg_name (i := 10) nd rfl (Or.inl rfl)) (pgs_cons (pg_name (i := 11) nd rfl (Or.inl rfl)) pgs_nil)))
          (pss_cons (ps_set (i := 6) nd rfl (Or.inl rfl) (pe_call (ok_is_below T) (hr.mono (by decide)) (by rfl) T.m_is_below T.F_is_below.kp (bN_is_below T.F_is_below) .nil pass0 (pa_cons (pe_call (ok_law_text T) (hr.mono (by decide)) (by rfl) T.m_law_text T.F_law_text.kp (bN_law_text T.F_law_text) .nil pass0 (pa_cons (pv 10) pa_nil)) (pa_cons (pe_call (ok_law_text T) (hr.mono (by decide)) (by rfl) T.m_law_text T.F_law_text.kp (bN_law_text T.F_law_text) .nil pass0 (pa_cons (pv 11) pa_nil)) pa_nil))))
          (pss_one (ps_if (PW.pt (pw_or (pt_not (pt_val (pe_callB call_isi (by rfl) T.m_isinstance (by decide +kernel) (pa_cons (pv 6) (pa_cons (pe_bltn (v := .ty "bool") (by rfl) T.m_bool (by decide +kernel) rfl) pa_nil))))) (pw_or1 (pt_cmpR op_ne (pv 6) (pe_call (ok_law_below T) (hr.mono (by decide)) (by rfl) T.m_law_below T.F_law_below.kp (bN_law_below T.F_law_below) .nil pass0 (pa_cons (pv 10) (pa_cons (pv 11) pa_nil))) (nomark _)))))
            (pss_one (ps_ret (pe_bl)))
            (pss_nil)))))
        (pss_cons (ps_set (i := 12) nd rfl (Or.inl rfl) (pe_op op_cat (pe_slice sl_list (pv 3) po_none (po_some pe_int)) (pe_lst (pa_cons (pe_op op_addT (pe_slice sl_str (pe_ix ix_list (pe_op op_cat (pv 3) (pe_lst (pa_cons pe_str pa_nil))) (pe_un un_neg pe_int) (fun _ _ => rfl)) po_none (po_some pe_int)) pe_str) (pa_cons pe_str pa_nil)))))
        (pss_one (ps_if (pt_cmpR op_ne (pe_call (ok_is_below T) (hr.mono (by decide)) (by rfl) T.m_is_below T.F_is_below.kp (bN_is_below T.F_is_below) .nil pass0 (pa_cons (pe_call (ok_law_text T) (hr.mono (by decide)) (by rfl) T.m_law_text T.F_law_text.kp (bN_law_text T.F_law_text) .nil pass0 (pa_cons (pv 12) pa_nil)) (pa_cons (pv 4) pa_nil))) (pe_call (ok_law_below T) (hr.mono (by decide)) (by rfl) T.m_law_below T.F_law_below.kp (bN_law_below T.F_law_below) .nil pass0 (pa_cons (pv 12) (pa_cons (pv 3) pa_nil))) (nomark _))
          (pss_one (ps_ret (pe_bl)))
          (pss_nil))))))))))))))
      (pss_one (ps_ret (pe_and (pe_cmpR op_isN (pe_call (ok_above T) (hr.mono (by decide)) (by rfl) T.m_above T.F_above.kp (bN_above T.F_above) .nil pass0 (pa_cons pe_str pa_nil)) pe_non (nomark _)) (pe_one (pe_cmpR (op_eqD hr.units) (pe_call (ok_parts_of T) (hr.mono (by decide)) (by rfl) T.m_parts_of T.F_parts_of.kp (bN_parts_of T.F_parts_of) .nil pass0 (pa_cons pe_str pa_nil)) (pe_lst pa_nil) (nomark _))))))), ?_⟩
    walk_at "ss"
    refine ⟨a, _, rfl, .inl hS, ?_⟩
    walk_at "ss"
    rw [len_ints]
    refine ⟨by split <;> split <;> omega, by split <;> split <;> omega, ?_⟩
    generalize hN0 : (if (if (zs.length : Int) < 8 then (zs.length : Int) else 8) > 2 then if (zs.length : Int) < 8 then (zs.length : Int) else 8 else 2).toNat = N
    have hN10 : N ≤ 10 := by
      rw [← hN0]
      split <;> split <;> omega
    refine for_rng (fun i σ' H' => Hold <| ∃ y1 y2 y3 y4 y5 y6 y7 y8 y9 y10 y11 y12, σ' = [some (.ref a), y1, y2, y3, y4, y5, y6, y7, y8, y9, y10, y11, y12] ∧ SqL K H' a (zs.map V.int)) ?_ ?_ ?_
    · exact ⟨_, _, _, _, _, _, _, _, _, _, _, _, rfl, hS⟩
    · rintro i σ' H0 hi ⟨y1, y2, y3, y4, y5, y6, y7, y8, y9, y10, y11, y12, rfl, hS0⟩
      walk_at "ss"
      refine cell_go hS0 (by omega) fun r0 => ?_
      walk_at "ss"
      refine bag_go fun b ob hb hB => ?_
      have k0 : Keep [b] H0 (upd H0 b ob) := Keep.new hb
      generalize upd H0 b ob = H1 at hB k0 ⊢
      walk_at "ss"
      refine ⟨b, 0, rfl, hB, by decide, fun p1 H2 ns n1 k1 hB1 e1 hN hl => ?_⟩
      have p1b : p1 ∉ [b] := by simpa using hB.ne n1
      have K2 := k0.trans k1
      walk_at "ss"
      refine ⟨p1, ns, rfl, e1, hN, ?_⟩
      walk_at "ss"
      refine ⟨by decide, by decide, ?_⟩
      refine for_rng (fun i' σ' H' => Hold <| ∃ y5 y6, σ' = [some (.ref a), some (.int (0 + (i : Nat))), some (.ref b), some (.ref p1), some (.str (pth ns)), y5, y6, y7, y8, y9, y10, y11, y12] ∧ Keep [] H2 H') ?_ ?_ ?_
      · exact ⟨_, _, rfl, Keep.refl _⟩
      · rintro i' σ' H3 hi' ⟨y5, y6, rfl, k3⟩
        walk_at "ss"
        refine ⟨ns, rfl, hN, fun p4 H4 n4 k4 e4 => ?_⟩
        walk_at "ss"
        refine w_isiV (b := true) (.base (.lst e4)) (kit_ty (by decide +kernel)) ?_
        walk_at "ss"
        refine w_neD (dp_lst e4) (dp_lst ((k3.trans k4).get e1 (by simp))) hN.shaped hN.shaped ?_
        rw [eqv_strs, decide_eq_true rfl]
        walk_at "ss"
        refine w_append e4 (by rw [nmV_len]; omega) ?_
        walk_at "ss"
        exact ⟨_, _, rfl, k3.trans (k4.updNew n4)⟩
      rintro σ' H3 ⟨y5, y6, rfl, k3⟩
      have e13 := k3.get e1 (by simp)
      have hB3 := hB1.keep0 k3
      have K3 := K2.trans k3.up
      clear k3 e1 hB1 K2 k1 hB
      walk_at "ss"
      refine ⟨p1, _, rfl, .inl (SqL.of e13), ?_⟩
      rw [nmV_len]
      walk_at "ss"
      refine ⟨by omega, by omega, ?_⟩
      refine for_rng (fun i' σ' H' => Hold <| ∃ y7, σ' = [some (.ref a), some (.int (0 + (i : Nat))), some (.ref b), some (.ref p1), some (.str (pth ns)), y5, y6, y7, y8, y9, y10, y11, y12] ∧ Keep [] H3 H') ?_ ?_ ?_
      · exact ⟨_, rfl, Keep.refl _⟩
      · rintro i' σ' H4 hi' ⟨y7, rfl, k4⟩
        walk_at "ss"
        refine ⟨p1, ns, i', by rw [Int.zero_add]; rfl, k4.get e13 (by simp), hN, by omega, fun H5 k5 => ?_⟩
        walk_at "ss"
        exact ⟨_, rfl, k4.trans k5⟩
      rintro σ' H4 ⟨y7, rfl, k4⟩
      have e14 := k4.get e13 (by simp)
      have hB4 := hB3.keep0 k4
      have K4 := K3.trans k4.up
      clear k4 e13 hB3 K3
      refine ⟨fun σ' H' => Hold <| σ' = [some (.ref a), some (.int (0 + (i : Nat))), some (.ref b), some (.ref p1), some (.str (pth ns)), y5, y6, y7, some (aboveV ns), y9, y10, y11, y12] ∧ Keep [] H4 H', ?_, ?_⟩
      · walk_at "ss"
        intro p5 hp5
        refine w_neD (dp_lst (stay e14 hp5)) (.lst (SqL.of upd_same) .nil) hN.shaped shaped_nil ?_
        rw [eqv_nil]
        walk_at "ss"
        refine w_iteN (fun hne => ?_) (fun hnil => ?_)
        · walk_at "ss"
          refine w_slL (SqL.of (stay e14 hp5)) fun p6 hp6 => ?_
          rw [cutV_m1, List.dropLast_eq_take, nmV_take, nmV_len]
          walk_at "ss"
          refine ⟨p6, _, rfl, upd_same, hN.take _, ?_⟩
          walk_at "ss"
          rw [aboveV_ne hne, List.dropLast_eq_take]
          exact ⟨rfl, (Keep.new hp5).trans (Keep.new hp6)⟩
        · walk_at "ss"
          subst hnil
          exact ⟨rfl, Keep.new hp5⟩
      rintro _ H5 ⟨rfl, k5⟩
      have e15 := k5.get e14 (by simp)
      have hB5 := hB4.keep0 k5
      have K5 := K4.trans k5.up
      clear k5 e14 hB4 K4
      walk_at "ss"
      refine ⟨ns, rfl, hN, fun H6 k6 => ?_⟩
      have e16 := k6.get e15 (by simp)
      have hB6 := hB5.keep0 k6
      have K6 := K5.trans k6.up
      clear k6 e15 hB5 K5
      walk_at "ss"
      have hsc : scal (aboveV ns) (aboveV ns) = true := by
        unfold aboveV
        split <;> rfl
      refine w_ne hsc ?_
      walk_at "ss"
      refine w_iteN (fun z => absurd rfl z) (fun _ => ?_)
      walk_at "ss"
      refine ⟨p1, _, rfl, .inl (SqL.of e16), ?_⟩
      rw [nmV_len]
      walk_at "ss"
      refine take_go (by omega) (by omega) hB6 (by omega) fun r1 H7 g1 g2 k7 hB7 => ?_
      have e17 := k7.get e16 p1b
      have K7 := K6.trans k7
      clear k7 hB6 e16 K6
      walk_at "ss"
      refine w_slL (SqL.of e17) fun p2 hp2 => ?_
      have hr1 : r1 = ((r1.toNat : Nat) : Int) := by omega
      rw [hr1, cutV_to, nmV_take]
      have hB8 := hB7.new (o := .lst (nmV (ns.take r1.toNat))) hp2
      have p2b : p2 ∉ [b] := by simpa using hB7.ne hp2
      have K8 := K7.trans (Keep.new (o := .lst (nmV (ns.take r1.toNat))) hp2)
      have e18 := stay (u := .lst (nmV (ns.take r1.toNat))) e17 hp2
      have e28 : upd H7 p2 (.lst (nmV (ns.take r1.toNat))) p2 = some (.lst (nmV (ns.take r1.toNat))) := upd_same
      generalize upd H7 p2 (.lst (nmV (ns.take r1.toNat))) = H8 at hB8 K8 e18 e28 ⊢
      clear hB7 K7 e17
      walk_at "ss"
      refine ⟨b, _, rfl, hB8, by omega, fun p3 H9 ms n3 k9 hB9 e39 hM hlm => ?_⟩
      have e19 := k9.get e18 p1b
      have e29 := k9.get e28 p2b
      have K9 := K8.trans k9
      have p3b : p3 ∉ [b] := by simpa using hB8.ne n3
      clear k9 e18 e28 K8
      walk_at "ss"
      refine take_go (by decide) (by decide) hB9 (by omega) fun r2 H10 g3 g4 k10 hB10 => ?_
      have e110 := k10.get e19 p1b
      have e210 := k10.get e29 p2b
      have e310 := k10.get e39 p3b
      have K10 := K9.trans k10
      clear k10 e19 e29 e39 K9 hB9
      walk_at "ss"
      refine w_slL (SqL.of e310) fun p4 hp4 => ?_
      have hr2 : r2 = ((r2.toNat : Nat) : Int) := by omega
      rw [hr2, cutV_to, nmV_take]
      have p4b : b ≠ p4 := (hB10.ne hp4).symm
      refine w_cat (stay e210 hp4) upd_same (by rw [nmV_len, nmV_len, List.length_take, List.length_take]; omega) fun p5 hp5 => ?_
      rw [← nmV_app]
      walk_at "ss"
      refine w_slL (SqL.of upd_same) fun p6 hp6 => ?_
      rw [show (20 : Int) = ((20 : Nat) : Int) from rfl, cutV_to, nmV_take]
      have hMM : Nms ((ns.take r1.toNat ++ ms.take r2.toNat).take 20) := (nms_app (hN.take _) (hM.take _).1 (by rw [List.length_take]; omega) (by rw [List.length_take]; omega)).take _
      have hlM : ((ns.take r1.toNat ++ ms.take r2.toNat).take 20).length ≤ 20 := by rw [List.length_take]; omega
      have kk := ((Keep.new (S := []) (o := .lst (nmV (ms.take r2.toNat))) hp4).trans (Keep.new (o := .lst (nmV (ns.take r1.toNat ++ ms.take r2.toNat))) hp5)).trans (Keep.new (o := .lst (nmV ((ns.take r1.toNat ++ ms.take r2.toNat).take 20))) hp6)
      have eo : upd (upd (upd H10 p4 (.lst (nmV (ms.take r2.toNat)))) p5 (.lst (nmV (ns.take r1.toNat ++ ms.take r2.toNat)))) p6 (.lst (nmV ((ns.take r1.toNat ++ ms.take r2.toNat).take 20))) p6 = some (.lst (nmV ((ns.take r1.toNat ++ ms.take r2.toNat).take 20))) := upd_same
      generalize upd (upd (upd H10 p4 (.lst (nmV (ms.take r2.toNat)))) p5 (.lst (nmV (ns.take r1.toNat ++ ms.take r2.toNat)))) p6 (.lst (nmV ((ns.take r1.toNat ++ ms.take r2.toNat).take 20))) = H11 at kk eo ⊢
      generalize (ns.take r1.toNat ++ ms.take r2.toNat).take 20 = os at hMM hlM eo
      have e111 := kk.get e110 (by simp)
      have K11 := K10.trans kk.up
      clear kk e110 e210 e310 K10 hB10 hp4 hp5 hp6 hB8 p4b
      walk_at "ss"
      intro t1 ht1
      walk_at "ss"
      intro t2 ht2
      walk_at "ss"
      intro t3 ht3
      walk_at "ss"
      intro l4 hl4
      walk_at "ss"
      intro t4 ht4
      walk_at "ss"
      intro l5 hl5
      walk_at "ss"
      intro t5 ht5
      walk_at "ss"
      intro pl hpl
      have kk : Keep [] H11 (upd (upd (upd (upd (upd (upd (upd (upd H11 t1 (.tup [.ref p1, .ref p6])) t2 (.tup [.ref p6, .ref p1])) t3 (.tup [.ref p1, .ref p1])) l4 (.lst [])) t4 (.tup [.ref p1, .ref l4])) l5 (.lst [])) t5 (.tup [.ref l5, .ref p6])) pl (.lst [.ref t1, .ref t2, .ref t3, .ref t4, .ref t5])) := ((((((((Keep.new ht1).trans (Keep.new ht2)).trans (Keep.new ht3)).trans (Keep.new hl4)).trans (Keep.new ht4)).trans (Keep.new hl5)).trans (Keep.new ht5)).trans (Keep.new hpl))
      have et1 : (upd (upd (upd (upd (upd (upd (upd (upd H11 t1 (.tup [.ref p1, .ref p6])) t2 (.tup [.ref p6, .ref p1])) t3 (.tup [.ref p1, .ref p1])) l4 (.lst [])) t4 (.tup [.ref p1, .ref l4])) l5 (.lst [])) t5 (.tup [.ref l5, .ref p6])) pl (.lst [.ref t1, .ref t2, .ref t3, .ref t4, .ref t5])) t1 = some (.tup [.ref p1, .ref p6]) := (stay (stay (stay (stay (stay (stay (stay upd_same ht2) ht3) hl4) ht4) hl5) ht5) hpl)
      have et2 : (upd (upd (upd (upd (upd (upd (upd (upd H11 t1 (.tup [.ref p1, .ref p6])) t2 (.tup [.ref p6, .ref p1])) t3 (.tup [.ref p1, .ref p1])) l4 (.lst [])) t4 (.tup [.ref p1, .ref l4])) l5 (.lst [])) t5 (.tup [.ref l5, .ref p6])) pl (.lst [.ref t1, .ref t2, .ref t3, .ref t4, .ref t5])) t2 = some (.tup [.ref p6, .ref p1]) := (stay (stay (stay (stay (stay (stay upd_same ht3) hl4) ht4) hl5) ht5) hpl)
      have et3 : (upd (upd (upd (upd (upd (upd (upd (upd H11 t1 (.tup [.ref p1, .ref p6])) t2 (.tup [.ref p6, .ref p1])) t3 (.tup [.ref p1, .ref p1])) l4 (.lst [])) t4 (.tup [.ref p1, .ref l4])) l5 (.lst [])) t5 (.tup [.ref l5, .ref p6])) pl (.lst [.ref t1, .ref t2, .ref t3, .ref t4, .ref t5])) t3 = some (.tup [.ref p1, .ref p1]) := (stay (stay (stay (stay (stay upd_same hl4) ht4) hl5) ht5) hpl)
      have el4 : (upd (upd (upd (upd (upd (upd (upd (upd H11 t1 (.tup [.ref p1, .ref p6])) t2 (.tup [.ref p6, .ref p1])) t3 (.tup [.ref p1, .ref p1])) l4 (.lst [])) t4 (.tup [.ref p1, .ref l4])) l5 (.lst [])) t5 (.tup [.ref l5, .ref p6])) pl (.lst [.ref t1, .ref t2, .ref t3, .ref t4, .ref t5])) l4 = some (.lst []) := (stay (stay (stay (stay upd_same ht4) hl5) ht5) hpl)
      have et4 : (upd (upd (upd (upd (upd (upd (upd (upd H11 t1 (.tup [.ref p1, .ref p6])) t2 (.tup [.ref p6, .ref p1])) t3 (.tup [.ref p1, .ref p1])) l4 (.lst [])) t4 (.tup [.ref p1, .ref l4])) l5 (.lst [])) t5 (.tup [.ref l5, .ref p6])) pl (.lst [.ref t1, .ref t2, .ref t3, .ref t4, .ref t5])) t4 = some (.tup [.ref p1, .ref l4]) := (stay (stay (stay upd_same hl5) ht5) hpl)
      have el5 : (upd (upd (upd (upd (upd (upd (upd (upd H11 t1 (.tup [.ref p1, .ref p6])) t2 (.tup [.ref p6, .ref p1])) t3 (.tup [.ref p1, .ref p1])) l4 (.lst [])) t4 (.tup [.ref p1, .ref l4])) l5 (.lst [])) t5 (.tup [.ref l5, .ref p6])) pl (.lst [.ref t1, .ref t2, .ref t3, .ref t4, .ref t5])) l5 = some (.lst []) := (stay (stay upd_same ht5) hpl)
      have et5 : (upd (upd (upd (upd (upd (upd (upd (upd H11 t1 (.tup [.ref p1, .ref p6])) t2 (.tup [.ref p6, .ref p1])) t3 (.tup [.ref p1, .ref p1])) l4 (.lst [])) t4 (.tup [.ref p1, .ref l4])) l5 (.lst [])) t5 (.tup [.ref l5, .ref p6])) pl (.lst [.ref t1, .ref t2, .ref t3, .ref t4, .ref t5])) t5 = some (.tup [.ref l5, .ref p6]) := (stay upd_same hpl)
      have epl : (upd (upd (upd (upd (upd (upd (upd (upd H11 t1 (.tup [.ref p1, .ref p6])) t2 (.tup [.ref p6, .ref p1])) t3 (.tup [.ref p1, .ref p1])) l4 (.lst [])) t4 (.tup [.ref p1, .ref l4])) l5 (.lst [])) t5 (.tup [.ref l5, .ref p6])) pl (.lst [.ref t1, .ref t2, .ref t3, .ref t4, .ref t5])) pl = some (.lst [.ref t1, .ref t2, .ref t3, .ref t4, .ref t5]) := upd_same
      generalize (upd (upd (upd (upd (upd (upd (upd (upd H11 t1 (.tup [.ref p1, .ref p6])) t2 (.tup [.ref p6, .ref p1])) t3 (.tup [.ref p1, .ref p1])) l4 (.lst [])) t4 (.tup [.ref p1, .ref l4])) l5 (.lst [])) t5 (.tup [.ref l5, .ref p6])) pl (.lst [.ref t1, .ref t2, .ref t3, .ref t4, .ref t5])) = Hb at kk et1 et2 et3 el4 et4 el5 et5 epl ⊢
      have e1b := kk.get e111 (by simp)
      have e6b := kk.get eo (by simp)
      have K12 := K11.trans kk.up
      clear ht1 ht2 ht3 hl4 ht4 hl5 ht5 hpl kk e111 eo K11
      walk_at "ss"
      refine ⟨⟨_, SqL.of epl⟩, ?_⟩
      refine for_lst (xs := [.ref t1, .ref t2, .ref t3, .ref t4, .ref t5]) (fun j σ' H' => Hold <| ∃ y6 y10 y11, σ' = [some (.ref a), some (.int (0 + (i : Nat))), some (.ref b), some (.ref p1), some (.str (pth ns)), y5, y6, y7, some (aboveV ns), some (.ref p6), y10, y11, y12] ∧ Keep [] Hb H') ?_ ?_ ?_ ?_
      · exact ⟨_, _, _, rfl, Keep.refl _⟩
      · rintro j σ' H' _ ⟨y6, y10, y11, _, k⟩
        exact SqL.of (k.get epl (by simp))
      · rintro j x σ' Hc hx ⟨y6, y10, y11, rfl, k⟩
        obtain ⟨tx, pa, pb, la, lb, rfl, et, eA, eB, hA, hB⟩ : ∃ tx pa pb la lb, x = .ref tx ∧ Hc tx = some (.tup [.ref pa, .ref pb]) ∧ Hc pa = some (.lst (nmV la)) ∧ Hc pb = some (.lst (nmV lb)) ∧ Nms la ∧ Nms lb := by
          match j, hx with
          | 0, hx => exact ⟨t1, p1, p6, ns, os, (Option.some.inj hx).symm, k.get et1 (by simp), k.get e1b (by simp), k.get e6b (by simp), hN, hMM⟩
          | 1, hx => exact ⟨t2, p6, p1, os, ns, (Option.some.inj hx).symm, k.get et2 (by simp), k.get e6b (by simp), k.get e1b (by simp), hMM, hN⟩
          | 2, hx => exact ⟨t3, p1, p1, ns, ns, (Option.some.inj hx).symm, k.get et3 (by simp), k.get e1b (by simp), k.get e1b (by simp), hN, hN⟩
          | 3, hx => exact ⟨t4, p1, l4, ns, [], (Option.some.inj hx).symm, k.get et4 (by simp), k.get e1b (by simp), k.get el4 (by simp), hN, Nms.nil⟩
          | 4, hx => exact ⟨t5, l5, p6, [], os, (Option.some.inj hx).symm, k.get et5 (by simp), k.get el5 (by simp), k.get e6b (by simp), Nms.nil, hMM⟩
        walk_at "ss"
        refine ⟨pa, la, rfl, eA, hA, ?_⟩
        walk_at "ss"
        refine ⟨pb, lb, rfl, eB, hB, ?_⟩
        walk_at "ss"
        refine ⟨la, lb, rfl, hA, hB, fun Hd kd => ?_⟩
        walk_at "ss"
        refine w_isiV (b := true) (.base (.bl _)) (kit_ty (by decide +kernel)) ?_
        walk_at "ss"
        refine ⟨pa, pb, la, lb, rfl, kd.get eA (by simp), kd.get eB (by simp), hA, hB, fun He ke => ?_⟩
        walk_at "ss"
        refine w_iteN (fun z => absurd rfl z) (fun _ => ?_)
        walk_at "ss"
        exact ⟨_, _, _, rfl, k.trans (kd.trans ke)⟩
      rintro σ' Hc ⟨y6, y10, y11, rfl, k⟩
      have e1c := k.get e1b (by simp)
      have K13 := K12.trans k.up
      clear k e1b e6b K12 et1 et2 et3 el4 et4 el5 et5 epl
      walk_at "ss"
      refine w_slL (SqL.of e1c) fun q1 hq1 => ?_
      rw [show (18 : Int) = ((18 : Nat) : Int) from rfl, cutV_to, nmV_take]
      walk_at "ss"
      intro q2 hq2
      refine w_cat (xs := nmV ns) (zs := nmV [[97]]) (stay (stay e1c hq1) hq2) upd_same (by rw [nmV_len, nmV_len]; show _ + 1 ≤ _; omega) fun q3 hq3 => ?_
      rw [← nmV_app]
      walk_at "ss"
      refine w_ixLS (v := .str (mkS [97])) (SqL.of upd_same) (by rw [nmV_app]; exact atI_last _ _) ?_
      walk_at "ss"
      rw [show cutS (mkS [97]) none (some 7) = mkS [97] from cutS_to [97] 7]
      refine w_addT (by decide) ?_
      rw [show ("q" : Str) = mkS [113] from rfl, mkS_app]
      walk_at "ss"
      intro q4 hq4
      refine w_cat (xs := nmV (ns.take 18)) (zs := nmV [[97, 113], [97]]) (stay (stay (stay upd_same hq2) hq3) hq4) upd_same (by rw [nmV_len, nmV_len, List.length_take]; show _ + 2 ≤ _; omega) fun q5 hq5 => ?_
      rw [← nmV_app]
      have hNr : Nms (ns.take 18 ++ [[97, 113], [97]]) := nms_app (hN.take _) (fun n hn => by simp at hn; rcases hn with rfl | rfl <;> decide) (by decide) (by rw [List.length_take]; omega)
      have kk := ((((Keep.new (S := []) (o := .lst (nmV (ns.take 18))) hq1).trans (Keep.new hq2)).trans (Keep.new hq3)).trans (Keep.new hq4)).trans (Keep.new (o := .lst (nmV (ns.take 18 ++ [[97, 113], [97]]))) hq5)
      walk_at "ss"
      refine ⟨q5, _, rfl, upd_same, hNr, ?_⟩
      walk_at "ss"
      refine ⟨_, ns, rfl, hNr, hN, fun Hd kd => ?_⟩
      walk_at "ss"
      refine ⟨q5, p1, _, ns, rfl, kd.get upd_same (by simp), (kk.trans kd).get e1c (by simp), hNr, hN, fun He ke => ?_⟩
      walk_at "ss"
      refine w_iteN (fun z => absurd rfl z) (fun _ => ?_)
      walk_at "ss"
      exact ⟨_, _, _, _, _, _, _, _, _, _, _, _, rfl, ((K13.trans kk.up).trans (kd.trans ke).up) |>.fresh (fun p hp => by rw [show p = b by simpa using hp]; exact hb) |>.sqL hS0⟩
    rintro σ' H' ⟨y1, y2, y3, y4, y5, y6, y7, y8, y9, y10, y11, y12, rfl, hS'⟩
    walk_at "ss"
    refine ⟨[], rfl, Nms.nil, fun H1 k1 => ?_⟩
    walk_at "ss"
    refine ⟨[], rfl, Nms.nil, fun p2 H2 n2 k2 e2 => ?_⟩
    walk_at "ss"
    intro p3 hp3
    refine w_eqD (dp_lst (stay e2 hp3)) (.lst (SqL.of upd_same) .nil) Nms.nil.shaped shaped_nil ?_
    walk_at "ss"
    exact q _
end
def d_is_name : He.DefD := ⟨("is_name", none), "is_name", "is_name", defArgs s_is_name, defBody s_is_name, defScope s_is_name, [], []⟩
def d_is_path : He.DefD := ⟨("is_path", none), "is_path", "is_path", defArgs s_is_path, defBody s_is_path, defScope s_is_path, [], []⟩
def d_need_path : He.DefD := ⟨("need_path", none), "need_path", "need_path", defArgs s_need_path, defBody s_need_path, defScope s_need_path, [], []⟩
def d_parts_of : He.DefD := ⟨("parts_of", none), "parts_of", "parts_of", defArgs s_parts_of, defBody s_parts_of, defScope s_parts_of, [], []⟩
def d_path_by : He.DefD := ⟨("path_by", none), "path_by", "path_by", defArgs s_path_by, defBody s_path_by, defScope s_path_by, [], []⟩
def d_joined : He.DefD := ⟨("joined", none), "joined", "joined", defArgs s_joined, defBody s_joined, defScope s_joined, [], []⟩
def d_above : He.DefD := ⟨("above", none), "above", "above", defArgs s_above, defBody s_above, defScope s_above, [], []⟩
def d_is_below : He.DefD := ⟨("is_below", none), "is_below", "is_below", defArgs s_is_below, defBody s_is_below, defScope s_is_below, [], []⟩
def d_law_cell : He.DefD := ⟨("_law_cell", none), "_law_cell", "_law_cell", defArgs s_law_cell, defBody s_law_cell, defScope s_law_cell, [], []⟩
def d_law_bag : He.DefD := ⟨("_law_bag", none), "_law_bag", "_law_bag", defArgs s_law_bag, defBody s_law_bag, defScope s_law_bag, [], []⟩
def d_law_take : He.DefD := ⟨("_law_take", none), "_law_take", "_law_take", defArgs s_law_take, defBody s_law_take, defScope s_law_take, [], []⟩
def d_law_names : He.DefD := ⟨("_law_names", none), "_law_names", "_law_names", defArgs s_law_names, defBody s_law_names, defScope s_law_names, [], []⟩
def d_law_text : He.DefD := ⟨("_law_text", none), "_law_text", "_law_text", defArgs s_law_text, defBody s_law_text, defScope s_law_text, [], []⟩
def d_law_joined_right : He.DefD := ⟨("_law_joined_right", none), "_law_joined_right", "_law_joined_right", defArgs s_law_joined_right, defBody s_law_joined_right, defScope s_law_joined_right, [], []⟩
def d_law_below : He.DefD := ⟨("_law_below", none), "_law_below", "_law_below", defArgs s_law_below, defBody s_law_below, defScope s_law_below, [], []⟩
def d_law : He.DefD := ⟨("law", none), "law", "law", defArgs s_law, defBody s_law, defScope s_law, [], []⟩
def fn : List He.DefD := [d_is_name, d_is_path, d_need_path, d_parts_of, d_path_by, d_joined, d_above, d_is_below, d_law_cell, d_law_bag, d_law_take, d_law_names, d_law_text, d_law_joined_right, d_law_below, d_law]
def fa : List He.Fa := [.free "all", .free "bool", .free "isinstance", .free "len", .free "list", .free "max", .free "min", .free "range", .free "str", .glo "is_name", .glo "is_path", .glo "need_path", .glo "parts_of", .glo "path_by", .glo "joined", .glo "above", .glo "is_below", .glo "_law_cell", .glo "_law_bag", .glo "_law_take", .glo "_law_names", .glo "_law_text", .glo "_law_joined_right", .glo "_law_below", .glo "law", .int "MOST_LETTERS" (8), .str "LETTERS" "abcdefghijklmnopqrstuvwxyz", .str "GROUND" "/"]
abbrev R : PySem.W.OpenRow := PySem.W.OpenLaw.row PySem.Challenge.rw_filerights_k03_paths_taken_apart
abbrev hk : PySem.W.Hook := He.hookD 4 fa fn
def ob (s : PySem.W.SharedT) : He.AlD := He.obsDG 4 fa fn (HandSHeadRun.getT s)
theorem ob_eq (s : PySem.W.SharedT) : ob s = hk.obs s.abs := He.obsDG_eq (HandSHeadRun.getT_eq s)
abbrev loose : List Str := ["RightsError", "InvalidName", "InvalidPath", "MOST_LETTERS", "LETTERS", "GROUND", "is_name", "is_path", "need_path", "parts_of", "path_by", "joined", "above", "is_below", "_law_cell", "_law_bag", "_law_take", "_law_names", "_law_text", "_law_joined_right", "_law_below"]
theorem run (w : World) : HandSHeadRun.RunEq R (PySem.W.view R.prog [24]) hk ob 2000 loose w := by
  intro os
  kernel_rfl
theorem txt_of {K : PySem.W.Frag} {h : Heap} {mg : Str → Option Value} (X : K.In h) (G : h.Ns mainGlobals mg) (c : He.SaysD fa fn K) : Txt K mg :=
  ⟨He.free_ok X G (c.fact 0 (f := .free "all") rfl),
  He.free_ok X G (c.fact 1 (f := .free "bool") rfl),
  He.free_ok X G (c.fact 2 (f := .free "isinstance") rfl),
  He.free_ok X G (c.fact 3 (f := .free "len") rfl),
  He.free_ok X G (c.fact 4 (f := .free "list") rfl),
  He.free_ok X G (c.fact 5 (f := .free "max") rfl),
  He.free_ok X G (c.fact 6 (f := .free "min") rfl),
  He.free_ok X G (c.fact 7 (f := .free "range") rfl),
  He.free_ok X G (c.fact 8 (f := .free "str") rfl),
  He.glo_ok X G (c.fact 9 (f := .glo "is_name") rfl),
  He.glo_ok X G (c.fact 10 (f := .glo "is_path") rfl),
  He.glo_ok X G (c.fact 11 (f := .glo "need_path") rfl),
  He.glo_ok X G (c.fact 12 (f := .glo "parts_of") rfl),
  He.glo_ok X G (c.fact 13 (f := .glo "path_by") rfl),
  He.glo_ok X G (c.fact 14 (f := .glo "joined") rfl),
  He.glo_ok X G (c.fact 15 (f := .glo "above") rfl),
  He.glo_ok X G (c.fact 16 (f := .glo "is_below") rfl),
  He.glo_ok X G (c.fact 17 (f := .glo "_law_cell") rfl),
  He.glo_ok X G (c.fact 18 (f := .glo "_law_bag") rfl),
  He.glo_ok X G (c.fact 19 (f := .glo "_law_take") rfl),
  He.glo_ok X G (c.fact 20 (f := .glo "_law_names") rfl),
  He.glo_ok X G (c.fact 21 (f := .glo "_law_text") rfl),
  He.glo_ok X G (c.fact 22 (f := .glo "_law_joined_right") rfl),
  He.glo_ok X G (c.fact 23 (f := .glo "_law_below") rfl),
  He.glo_ok X G (c.fact 24 (f := .glo "law") rfl),
  (let ⟨_, F⟩ := c.def_ 0 (d := d_is_name) rfl; F.toFd),
  (let ⟨_, F⟩ := c.def_ 1 (d := d_is_path) rfl; F.toFd),
  (let ⟨_, F⟩ := c.def_ 2 (d := d_need_path) rfl; F.toFd),
  (let ⟨_, F⟩ := c.def_ 3 (d := d_parts_of) rfl; F.toFd),
  (let ⟨_, F⟩ := c.def_ 4 (d := d_path_by) rfl; F.toFd),
  (let ⟨_, F⟩ := c.def_ 5 (d := d_joined) rfl; F.toFd),
  (let ⟨_, F⟩ := c.def_ 6 (d := d_above) rfl; F.toFd),
  (let ⟨_, F⟩ := c.def_ 7 (d := d_is_below) rfl; F.toFd),
  (let ⟨_, F⟩ := c.def_ 8 (d := d_law_cell) rfl; F.toFd),
  (let ⟨_, F⟩ := c.def_ 9 (d := d_law_bag) rfl; F.toFd),
  (let ⟨_, F⟩ := c.def_ 10 (d := d_law_take) rfl; F.toFd),
  (let ⟨_, F⟩ := c.def_ 11 (d := d_law_names) rfl; F.toFd),
  (let ⟨_, F⟩ := c.def_ 12 (d := d_law_text) rfl; F.toFd),
  (let ⟨_, F⟩ := c.def_ 13 (d := d_law_joined_right) rfl; F.toFd),
  (let ⟨_, F⟩ := c.def_ 14 (d := d_law_below) rfl; F.toFd),
  (let ⟨_, F⟩ := c.def_ 15 (d := d_law) rfl; F.toFd),
  He.int_ok X G (c.fact 25 (f := .int "MOST_LETTERS" (8)) rfl),
  He.str_ok X G (c.fact 26 (f := .str "LETTERS" "abcdefghijklmnopqrstuvwxyz") rfl),
  He.str_ok X G (c.fact 27 (f := .str "GROUND" "/") rfl)⟩
theorem facts {P : Program} {w : World} {K : PySem.W.Frag} {h : Heap} {mg : Str → Option Value} {f : Addr} (X : K.In h) (G : h.Ns mainGlobals mg) (hfa : mg ("law" : Str) = some (.ref f)) (c : He.SaysD fa fn K) :
    ∃ fd : FuncData, (∀ (s : Shared) (v : Value), BindsTo s fd ⟨[v], []⟩ [("_law_script", v)]) ∧ ∀ base : Heap, K.In base → base.Ns mainGlobals mg → FnOk P w K mg base CX0 8 f fd ["_law_script"] (spLaw K) := by
  have T := txt_of X G c
  have e := hfa.symm.trans T.m_law
  cases e
  have b := FunD.bindsA (ps := ["_law_script"]) T.F_law fun _ _ _ _ _ _ us hl => match us, hl with | [_], _ => rfl
  exact ⟨fdOf K (He.ga K "law"), fun s v => b s [v] rfl, fun base _ _ => ok_law T⟩
end K03
open PySem PySem.W PySem.Calls PyProof.Rows
set_option maxHeartbeats 0 in
theorem PySem.Challenge.cw_filerights_k03_paths_taken_apart_holds : PySem.Challenge.rw_filerights_k03_paths_taken_apart.Holds := by
  w_on; o_law
  refine HandSHeadRun.head_any (r := OpenLaw.row PySem.Challenge.rw_filerights_k03_paths_taken_apart) (q := view (OpenLaw.row PySem.Challenge.rw_filerights_k03_paths_taken_apart).prog [24]) (H := K03.hk) (ob := K03.ob) (M := 2000) (loose := K03.loose) (d := HandSHeadRun.topDef (OpenLaw.row PySem.Challenge.rw_filerights_k03_paths_taken_apart).prog 24) (kwd := []) K03.ob_eq
    (by kernel_rfl) (fun s => by kernel_rfl) K03.run (by kernel_rfl) (by kernel_rfl) (by kernel_rfl) (by rfl) (by first | assumption | decide +kernel) (by decide +kernel) ⟨rfl, rfl, rfl, rfl, rfl, by decide +kernel⟩ ?hw ?hc
  case hw => w_witness2
  case hc =>
    refine L2.walk_ofE (l := PySem.Challenge.rw_filerights_k03_paths_taken_apart) (n := 63) (k := 8) (x := "_law_script") (CX := L2.CX0) rfl (by decide) (by kernel_rfl) ⟨rfl, by decide, by decide⟩ ?F (fun _ _ _ _ z => z)
    intro w mg fa h Y G hmg0
    obtain ⟨K, KX, c⟩ := Y
    have hmg : mg ("law" : PySem.Str) = some (.ref fa) := by
      have e : (HandSHeadRun.topDef (OpenLaw.row PySem.Challenge.rw_filerights_k03_paths_taken_apart).prog 24).name = ("law" : PySem.Str) := by kernel_rfl
      rw [← e]
      exact hmg0
    obtain ⟨fd, hb, hF⟩ := K03.facts (P := (PySem.Challenge.rw_filerights_k03_paths_taken_apart).prog) (w := w) KX G hmg c
    exact ⟨K, fd, K03.spLaw K, KX, hb, fun H a ns hl _ hS => ⟨a, ns, rfl, hS, hl, fun _ => rfl⟩, hF⟩
